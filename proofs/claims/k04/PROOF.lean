import PyProof.Rows.All
import Wide.All
import OpenK.AllK
import Wide.FinOn
import HandS.ForMost
import HandS.ForExc
import HandS.Wide
import HandS.Flow
import HandS.Evl
import HandS.Conv
import HandS.IsInst
import KE.SortData
import KE.DatumMoreOrd
import KE.DatumIndex
import HandS.Walk
import HandS.TupSets
import PySem.Challenge.RW_everyseat_k04_ways
set_option Elab.async false
set_option linter.all false
set_option maxRecDepth 100000
set_option maxHeartbeats 4000000
/-! My own layer over HandS: mirrors in an error monad, represented data, owned cells. -/
namespace PG
open PySem L2

/-! ### the mirrors' monad -/
inductive Er where
  | bad
  | exc (n : String)
  deriving DecidableEq
abbrev M := Except Er
def wp {a : Type} (m : M a) (Q : a → Prop) (E : String → Prop) : Prop :=
  match m with
  | .ok x => Q x
  | .error .bad => False
  | .error (.exc n) => E n
section
variable {a b : Type} {Q : a → Prop} {R : b → Prop} {E E' : String → Prop}
theorem wp_ok {x : a} : wp (Except.ok x : M a) Q E = Q x := rfl
theorem wp_pure {x : a} : wp (pure x : M a) Q E = Q x := rfl
theorem wp_bind {m : M b} {k : b → M a} : wp (m >>= k) Q E ↔ wp m (fun x => wp (k x) Q E) E := by
  cases m with
  | ok x => exact Iff.rfl
  | error e => cases e <;> exact Iff.rfl
theorem wp_call {m : M b} {k : b → M a} {E1 : String → Prop} (h : wp (m >>= k) Q E) (hr : ∀ r, m = .ok r → wp (k r) Q E → R r) (he : ∀ n, E n → E1 n) : wp m R E1 := by
  cases m with
  | ok x => exact hr x rfl h
  | error e =>
    cases e with
    | bad => exact h
    | exc n => exact he n h
/-- the last call of a def -/
theorem wp_tail {m : M a} {E1 : String → Prop} {R : a → Prop} (h : wp m Q E) (hr : ∀ r, m = .ok r → Q r → R r) (he : ∀ n, E n → E1 n) : wp m R E1 := by
  cases m with
  | ok x => exact hr x rfl h
  | error e =>
    cases e with
    | bad => exact h
    | exc n => exact he n h
def bad : M a := .error .bad
def raise (n : String) : M a := .error (.exc n)
theorem wp_bad {P : Prop} (h : wp (bad : M a) Q E) : P := h.elim
/-- a guard -/
def chk (c : Prop) [Decidable c] : M Unit := if c then .ok () else bad
theorem wp_chk {c : Prop} [Decidable c] {k : Unit → M a} (h : wp (chk c >>= k) Q E) : c ∧ wp (k ()) Q E := by
  unfold chk at h
  by_cases hc : c
  · rw [if_pos hc] at h
    exact ⟨hc, h⟩
  · rw [if_neg hc] at h
    exact h.elim
/-- something that is there -/
def opt (o : Option b) : M b := match o with
  | some x => .ok x
  | none => bad
theorem wp_opt {o : Option b} {k : b → M a} (h : wp (opt o >>= k) Q E) : ∃ x, o = some x ∧ wp (k x) Q E := by
  cases o with
  | none => exact h.elim
  | some x => exact ⟨x, rfl, h⟩
/-- no exception leaves -/
def nox (m : M a) : M a := match m with
  | .ok x => .ok x
  | .error _ => bad
theorem wp_nox {m : M b} {k : b → M a} (h : wp (nox m >>= k) Q E) : ∃ x, m = .ok x ∧ wp (k x) Q E := by
  cases m with
  | ok x => exact ⟨x, rfl, h⟩
  | error e => exact h.elim
theorem wp_of_ok {m : M b} {x : b} (e : m = .ok x) (h : R x) : wp m R E := by
  rw [e]
  exact h
theorem wp_ite {c : Prop} [Decidable c] {x y : M a} (h : wp (if c then x else y) Q E) : (c → wp x Q E) ∧ (¬ c → wp y Q E) := by
  by_cases hc : c
  · rw [if_pos hc] at h
    exact ⟨fun _ => h, fun n => (n hc).elim⟩
  · rw [if_neg hc] at h
    exact ⟨fun p => (hc p).elim, fun _ => h⟩
end

/-! ### loops -/
/-- a turn's end: on to the next, or the def's return -/
inductive Fl (s r : Type) where
  | nx (x : s)
  | rt (x : r)
section
variable {i s r a : Type}
def loopM (b : i → s → M (Fl s r)) : List i → s → M (Fl s r)
  | [], x => .ok (.nx x)
  | y :: ys, x => b y x >>= fun
    | .nx x' => loopM b ys x'
    | .rt z => .ok (.rt z)
/-- a loop without return -/
def loopN (b : i → s → M s) : List i → s → M s
  | [], x => .ok x
  | y :: ys, x => b y x >>= fun x' => loopN b ys x'
def whileM (c : s → M Bool) (b : s → M (Fl s r)) : Nat → s → M (Fl s r)
  | 0, _ => bad
  | n + 1, x => c x >>= fun t => if t = true then b x >>= fun
      | .nx x' => whileM c b n x'
      | .rt z => .ok (.rt z)
    else .ok (.nx x)
def whileN (c : s → M Bool) (b : s → M s) : Nat → s → M s
  | 0, _ => bad
  | n + 1, x => c x >>= fun t => if t = true then b x >>= fun x' => whileN c b n x' else .ok x
/-- a comprehension: f gives an element, or none where the test fails -/
def compN (b : i → s → M (Option a × s)) : List i → s → M (List a × s)
  | [], x => .ok ([], x)
  | y :: ys, x => b y x >>= fun p => compN b ys p.2 >>= fun q => .ok (match p.1 with
    | some z => z :: q.1
    | none => q.1, q.2)
/-- .. that changes nothing -/
def compM (b : i → M (Option a)) : List i → M (List a)
  | [] => .ok []
  | y :: ys => b y >>= fun p => compM b ys >>= fun q => .ok (match p with
    | some z => z :: q
    | none => q)
end

/-! ### what a value stands for -/
open PySem.W (T3 T4 Datum DatumOrd)
mutual
inductive Rep (H : Hp) : V → PyData → Prop
  | non : Rep H .non .none
  | bl (b : Bool) : Rep H (.bl b) (.bool b)
  | int (i : Int) : Rep H (.int i) (.int i)
  | str (x : Str) : Rep H (.str x) (.str x)
  | lst {a : Addr} {xs : List V} {ds : List PyData} : H a = some (.lst xs) → RepA H xs ds → Rep H (.ref a) (.list ds)
  | tup {a : Addr} {xs : List V} {ds : List PyData} : H a = some (.tup xs) → RepA H xs ds → Rep H (.ref a) (.tuple ds)
inductive RepA (H : Hp) : List V → List PyData → Prop
  | nil : RepA H [] []
  | cons {v : V} {vs : List V} {d : PyData} {ds : List PyData} : Rep H v d → RepA H vs ds → RepA H (v :: vs) (d :: ds)
end
mutual
theorem Rep.mono {H H' : Hp} (s : Same H H') : ∀ (d : PyData) (v : V), Rep H v d → Rep H' v d
  | .none, _, h => by cases h; exact .non
  | .bool _, _, h => by cases h; exact .bl _
  | .int _, _, h => by cases h; exact .int _
  | .str _, _, h => by cases h; exact .str _
  | .list ds, _, h => by
    cases h with
    | lst ha hs => exact .lst (s _ _ ha) (RepA.mono s ds _ hs)
  | .tuple ds, _, h => by
    cases h with
    | tup ha hs => exact .tup (s _ _ ha) (RepA.mono s ds _ hs)
  | .dict _, _, h => by cases h
theorem RepA.mono {H H' : Hp} (s : Same H H') : ∀ (ds : List PyData) (vs : List V), RepA H vs ds → RepA H' vs ds
  | [], _, h => by cases h; exact .nil
  | d :: ds, _, h => by
    cases h with
    | cons h1 h2 => exact .cons (Rep.mono s d _ h1) (RepA.mono s ds _ h2)
end
mutual
theorem Rep.dp {K : PySem.W.Frag} {H : Hp} : ∀ (d : PyData) (v : V), Rep H v d → Dp K H v d
  | .none, _, h => by cases h; exact .non
  | .bool _, _, h => by cases h; exact .bl _
  | .int _, _, h => by cases h; exact .int _
  | .str _, _, h => by cases h; exact .str _
  | .list ds, _, h => by
    cases h with
    | lst ha hs => exact .lst (SqL.of ha) (RepA.dp ds _ hs)
  | .tuple ds, _, h => by
    cases h with
    | tup ha hs => exact .tup (SqT.of ha) (RepA.dp ds _ hs)
  | .dict _, _, h => by cases h
theorem RepA.dp {K : PySem.W.Frag} {H : Hp} : ∀ (ds : List PyData) (vs : List V), RepA H vs ds → DpAll K H vs ds
  | [], _, h => by cases h; exact .nil
  | d :: ds, _, h => by
    cases h with
    | cons h1 h2 => exact .cons (Rep.dp d _ h1) (RepA.dp ds _ h2)
end

/-- a Lean type whose values are Python's data -/
class Py (a : Type) where
  toD : a → PyData
instance : Py Int := ⟨.int⟩
instance : Py Bool := ⟨.bool⟩
instance : Py Str := ⟨.str⟩
instance : Py Unit := ⟨fun _ => .none⟩
instance {a : Type} [Py a] : Py (List a) := ⟨fun xs => .list (xs.map Py.toD)⟩
instance {a b : Type} [Py a] [Py b] : Py (a × b) := ⟨fun p => .tuple [Py.toD p.1, Py.toD p.2]⟩
instance {a b c : Type} [Py a] [Py b] [Py c] : Py (T3 a b c) := ⟨fun p => .tuple [Py.toD p.a, Py.toD p.b, Py.toD p.c]⟩
instance {a b c d : Type} [Py a] [Py b] [Py c] [Py d] : Py (T4 a b c d) := ⟨fun p => .tuple [Py.toD p.a, Py.toD p.b, Py.toD p.c, Py.toD p.d]⟩
instance {a : Type} [Py a] : Py (Option a) := ⟨fun o => match o with
  | none => .none
  | some x => Py.toD x⟩
class IsD (a : Type) [Py a] [DecidableEq a] [Datum a] : Prop where
  eq : ∀ x : a, Py.toD x = Datum.toD x
instance : IsD Int := ⟨fun _ => rfl⟩
instance : IsD Bool := ⟨fun _ => rfl⟩
instance : IsD Str := ⟨fun _ => rfl⟩
instance : IsD Unit := ⟨fun _ => rfl⟩
section
variable {a b c d : Type} [Py a] [DecidableEq a] [Datum a] [IsD a] [Py b] [DecidableEq b] [Datum b] [IsD b] [Py c] [DecidableEq c] [Datum c] [IsD c] [Py d] [DecidableEq d] [Datum d] [IsD d]
theorem map_toD (xs : List a) : xs.map (Py.toD : a → PyData) = xs.map Datum.toD := List.map_congr_left fun x _ => IsD.eq x
instance : IsD (List a) := ⟨fun xs => congrArg PyData.list (map_toD xs)⟩
instance : IsD (a × b) := ⟨fun p => by show PyData.tuple [_, _] = PyData.tuple [_, _]; rw [IsD.eq, IsD.eq]⟩
instance : IsD (T3 a b c) := ⟨fun p => by show PyData.tuple [_, _, _] = PyData.tuple [_, _, _]; rw [IsD.eq, IsD.eq, IsD.eq]⟩
instance : IsD (T4 a b c d) := ⟨fun p => by show PyData.tuple [_, _, _, _] = PyData.tuple [_, _, _, _]; rw [IsD.eq, IsD.eq, IsD.eq, IsD.eq]⟩
instance [PySem.W.SomeDatum a] : IsD (Option a) := ⟨fun o => by
  cases o with
  | none => rfl
  | some x => exact IsD.eq x⟩
end

/-- v stands for x -/
def R {a : Type} [Py a] (H : Hp) (v : V) (x : a) : Prop := Rep H v (Py.toD x)
/-- item by item -/
def RL {a : Type} [Py a] (H : Hp) (vs : List V) (xs : List a) : Prop := RepA H vs (xs.map Py.toD)
section
variable {H H' : Hp} {v : V} {vs : List V} {p q : Addr}
theorem R.mono {a : Type} [Py a] {x : a} (h : R H v x) (s : Same H H') : R H' v x := Rep.mono s _ _ h
theorem RL.mono {a : Type} [Py a] {xs : List a} (h : RL H vs xs) (s : Same H H') : RL H' vs xs := RepA.mono s _ _ h
theorem R.int {i : Int} : R H (.int i) i := Rep.int i
theorem R.bl {b : Bool} : R H (.bl b) b := Rep.bl b
theorem R.str {x : Str} : R H (.str x) x := Rep.str x
theorem R.unit {u : Unit} : R H .non u := Rep.non
theorem R.non {a : Type} [Py a] : R H .non (none : Option a) := Rep.non
theorem R.jst {a : Type} [Py a] {x : a} (h : R H v x) : R H v (some x) := h
theorem R.int_ {i : Int} (h : R H v i) : v = .int i := by cases h; rfl
theorem R.bl_ {b : Bool} (h : R H v b) : v = .bl b := by cases h; rfl
theorem R.str_ {x : Str} (h : R H v x) : v = .str x := by cases h; rfl
theorem R.unit_ {u : Unit} (h : R H v u) : v = .non := by cases h; rfl
theorem R.non_ {a : Type} [Py a] (h : R H v (none : Option a)) : v = .non := by cases h; rfl
theorem R.jst_ {a : Type} [Py a] {x : a} (h : R H v (some x)) : R H v x := h
variable {a b c d : Type} [Py a] [Py b] [Py c] [Py d]
theorem R.lst {xs : List a} (ha : H p = some (.lst vs)) (h : RL H vs xs) : R H (.ref p) xs := Rep.lst ha h
theorem R.lst_ {xs : List a} (h : R H v xs) : ∃ p vs, v = .ref p ∧ H p = some (.lst vs) ∧ RL H vs xs := by
  have h' : Rep H v (.list (xs.map Py.toD)) := h
  cases h' with
  | lst ha hs => exact ⟨_, _, rfl, ha, hs⟩
theorem R.t2 {x : a × b} {v1 v2 : V} (ha : H p = some (.tup [v1, v2])) (h1 : R H v1 x.1) (h2 : R H v2 x.2) : R H (.ref p) x := Rep.tup ha (.cons h1 (.cons h2 .nil))
theorem R.t2_ {x : a × b} (h : R H v x) : ∃ p v1 v2, v = .ref p ∧ H p = some (.tup [v1, v2]) ∧ R H v1 x.1 ∧ R H v2 x.2 := by
  have h' : Rep H v (.tuple [_, _]) := h
  cases h' with
  | tup ha hs =>
    cases hs with
    | cons h1 hs =>
      cases hs with
      | cons h2 hs =>
        cases hs
        exact ⟨_, _, _, rfl, ha, h1, h2⟩
theorem R.t3 {x : T3 a b c} {v1 v2 v3 : V} (ha : H p = some (.tup [v1, v2, v3])) (h1 : R H v1 x.a) (h2 : R H v2 x.b) (h3 : R H v3 x.c) : R H (.ref p) x := Rep.tup ha (.cons h1 (.cons h2 (.cons h3 .nil)))
theorem R.t3_ {x : T3 a b c} (h : R H v x) : ∃ p v1 v2 v3, v = .ref p ∧ H p = some (.tup [v1, v2, v3]) ∧ R H v1 x.a ∧ R H v2 x.b ∧ R H v3 x.c := by
  have h' : Rep H v (.tuple [_, _, _]) := h
  cases h' with
  | tup ha hs =>
    cases hs with
    | cons h1 hs =>
      cases hs with
      | cons h2 hs =>
        cases hs with
        | cons h3 hs =>
          cases hs
          exact ⟨_, _, _, _, rfl, ha, h1, h2, h3⟩
theorem R.t4 {x : T4 a b c d} {v1 v2 v3 v4 : V} (ha : H p = some (.tup [v1, v2, v3, v4])) (h1 : R H v1 x.a) (h2 : R H v2 x.b) (h3 : R H v3 x.c) (h4 : R H v4 x.d) : R H (.ref p) x :=
  Rep.tup ha (.cons h1 (.cons h2 (.cons h3 (.cons h4 .nil))))
theorem R.t4_ {x : T4 a b c d} (h : R H v x) : ∃ p v1 v2 v3 v4, v = .ref p ∧ H p = some (.tup [v1, v2, v3, v4]) ∧ R H v1 x.a ∧ R H v2 x.b ∧ R H v3 x.c ∧ R H v4 x.d := by
  have h' : Rep H v (.tuple [_, _, _, _]) := h
  cases h' with
  | tup ha hs =>
    cases hs with
    | cons h1 hs =>
      cases hs with
      | cons h2 hs =>
        cases hs with
        | cons h3 hs =>
          cases hs with
          | cons h4 hs =>
            cases hs
            exact ⟨_, _, _, _, _, rfl, ha, h1, h2, h3, h4⟩
theorem RL.nil : RL H [] ([] : List a) := RepA.nil
theorem RL.cons {x : a} {xs : List a} (h : R H v x) (hs : RL H vs xs) : RL H (v :: vs) (x :: xs) := RepA.cons h hs
theorem RL.cons_ {x : a} {xs : List a} (h : RL H vs (x :: xs)) : ∃ w ws, vs = w :: ws ∧ R H w x ∧ RL H ws xs := by
  have h' : RepA H vs (Py.toD x :: xs.map Py.toD) := h
  cases h' with
  | cons h1 h2 => exact ⟨_, _, rfl, h1, h2⟩
theorem RL.nil_ (h : RL H vs ([] : List a)) : vs = [] := by
  have h' : RepA H vs [] := h
  cases h'
  rfl
theorem RL.len : ∀ {vs : List V} {xs : List a}, RL H vs xs → vs.length = xs.length
  | _, [], h => by rw [RL.nil_ h]; rfl
  | _, x :: xs, h => by
    obtain ⟨w, ws, rfl, _, h2⟩ := RL.cons_ h
    rw [List.length_cons, List.length_cons, RL.len h2]
theorem RL.app : ∀ {vs ws : List V} {xs ys : List a}, RL H vs xs → RL H ws ys → RL H (vs ++ ws) (xs ++ ys)
  | _, _, [], _, h, k => by rw [RL.nil_ h]; exact k
  | _, _, x :: xs, _, h, k => by
    obtain ⟨w, ws', rfl, h1, h2⟩ := RL.cons_ h
    exact RL.cons h1 (RL.app h2 k)
theorem RL.snoc {x : a} {xs : List a} (h : RL H vs xs) (k : R H v x) : RL H (vs ++ [v]) (xs ++ [x]) := RL.app h (RL.cons k RL.nil)
theorem RL.get : ∀ {vs : List V} {xs : List a}, RL H vs xs → ∀ {i : Nat} {x : a}, xs[i]? = some x → ∃ w, vs[i]? = some w ∧ R H w x
  | _, [], _, i, x, e => by simp at e
  | _, y :: ys, h, i, x, e => by
    obtain ⟨w, ws, rfl, h1, h2⟩ := RL.cons_ h
    cases i with
    | zero =>
      cases (Option.some.inj e : y = x)
      exact ⟨w, rfl, h1⟩
    | succ i => exact RL.get h2 (i := i) (by simpa using e)
theorem RL.got : ∀ {vs : List V} {xs : List a}, RL H vs xs → ∀ {i : Nat} {w : V}, vs[i]? = some w → ∃ x, xs[i]? = some x ∧ R H w x
  | _, [], h, i, w, e => by rw [RL.nil_ h] at e; simp at e
  | _, y :: ys, h, i, w, e => by
    obtain ⟨w', ws, rfl, h1, h2⟩ := RL.cons_ h
    cases i with
    | zero =>
      cases (Option.some.inj e : w' = w)
      exact ⟨y, rfl, h1⟩
    | succ i => exact RL.got h2 (i := i) (by simpa using e)
theorem RL.atI {xs : List a} (h : RL H vs xs) {i : Int} {x : a} (e : L2.atI xs i = some x) : ∃ w, L2.atI vs i = some w ∧ R H w x := by
  unfold L2.atI at e ⊢
  rw [h.len]
  cases q : ixN xs.length i with
  | none => rw [q] at e; cases e
  | some j =>
    rw [q] at e
    exact h.get e
theorem RL.take : ∀ {vs : List V} {xs : List a} (n : Nat), RL H vs xs → RL H (vs.take n) (xs.take n)
  | _, _, 0, _ => RL.nil
  | _, [], n + 1, h => by rw [RL.nil_ h]; exact RL.nil
  | _, x :: xs, n + 1, h => by
    obtain ⟨w, ws, rfl, h1, h2⟩ := RL.cons_ h
    exact RL.cons h1 (RL.take n h2)
theorem RL.drop : ∀ {vs : List V} {xs : List a} (n : Nat), RL H vs xs → RL H (vs.drop n) (xs.drop n)
  | _, _, 0, h => h
  | _, [], n + 1, h => by rw [RL.nil_ h]; exact RL.nil
  | _, x :: xs, n + 1, h => by
    obtain ⟨w, ws, rfl, h1, h2⟩ := RL.cons_ h
    exact RL.drop n h2
theorem RL.set : ∀ {vs : List V} {xs : List a} (n : Nat) {w : V} {y : a}, RL H vs xs → R H w y → RL H (vs.set n w) (xs.set n y)
  | _, [], n, _, _, h, _ => by rw [RL.nil_ h]; exact RL.nil
  | _, x :: xs, 0, _, _, h, k => by
    obtain ⟨w, ws, rfl, h1, h2⟩ := RL.cons_ h
    exact RL.cons k h2
  | _, x :: xs, n + 1, _, _, h, k => by
    obtain ⟨w, ws, rfl, h1, h2⟩ := RL.cons_ h
    exact RL.cons h1 (RL.set n h2 k)
theorem RL.erase : ∀ {vs : List V} {xs : List a} (n : Nat), RL H vs xs → RL H (vs.eraseIdx n) (xs.eraseIdx n)
  | _, [], n, h => by rw [RL.nil_ h]; exact RL.nil
  | _, x :: xs, 0, h => by
    obtain ⟨w, ws, rfl, h1, h2⟩ := RL.cons_ h
    exact h2
  | _, x :: xs, n + 1, h => by
    obtain ⟨w, ws, rfl, h1, h2⟩ := RL.cons_ h
    exact RL.cons h1 (RL.erase n h2)
theorem RL.dropLast : ∀ {vs : List V} {xs : List a}, RL H vs xs → RL H vs.dropLast xs.dropLast
  | _, [], h => by rw [RL.nil_ h]; exact RL.nil
  | _, x :: xs, h => by
    obtain ⟨w, ws, rfl, h1, h2⟩ := RL.cons_ h
    cases xs with
    | nil => rw [RL.nil_ h2]; exact RL.nil
    | cons y ys =>
      obtain ⟨w2, ws2, rfl, _, _⟩ := RL.cons_ h2
      exact RL.cons h1 (RL.dropLast h2)
theorem RL.rev : ∀ {vs : List V} {xs : List a}, RL H vs xs → RL H vs.reverse xs.reverse
  | _, [], h => by rw [RL.nil_ h]; exact RL.nil
  | _, x :: xs, h => by
    obtain ⟨w, ws, rfl, h1, h2⟩ := RL.cons_ h
    rw [List.reverse_cons, List.reverse_cons]
    exact RL.snoc (RL.rev h2) h1
theorem RL.ints : ∀ {vs : List V} {xs : List Int}, RL H vs xs → vs = xs.map V.int
  | _, [], h => RL.nil_ h
  | _, x :: xs, h => by
    obtain ⟨w, ws, rfl, h1, h2⟩ := RL.cons_ h
    rw [R.int_ h1, RL.ints h2]
    rfl
theorem RL.of_ints : ∀ {xs : List Int}, RL H (xs.map V.int) xs
  | [] => RL.nil
  | x :: xs => RL.cons R.int RL.of_ints
theorem RL.bls : ∀ {vs : List V} {xs : List Bool}, RL H vs xs → vs = xs.map V.bl
  | _, [], h => RL.nil_ h
  | _, x :: xs, h => by
    obtain ⟨w, ws, rfl, h1, h2⟩ := RL.cons_ h
    rw [R.bl_ h1, RL.bls h2]
    rfl
theorem RL.strs : ∀ {vs : List V} {xs : List Str}, RL H vs xs → vs = xs.map V.str
  | _, [], h => RL.nil_ h
  | _, x :: xs, h => by
    obtain ⟨w, ws, rfl, h1, h2⟩ := RL.cons_ h
    rw [R.str_ h1, RL.strs h2]
    rfl
theorem RL.of_strs : ∀ {xs : List Str}, RL H (xs.map V.str) xs
  | [] => RL.nil
  | x :: xs => RL.cons R.str RL.of_strs
theorem RL.cut {xs : List a} (h : RL H vs xs) (lo hi : Option Int) : RL H (cutV vs lo hi) ((xs.drop (HT.sIx xs.length 0 lo)).take (HT.sIx xs.length xs.length hi - HT.sIx xs.length 0 lo)) := by
  unfold cutV
  rw [h.len]
  exact (h.drop _).take _
end

/-! ### owned cells: F is what is read alone, cs are the cells that the code may change -/
/-- what is known of the heap behind a def, by the heap at its entry; the cells at as may have changed -/
structure Gr (as : List Addr) (F H F' H' : Hp) : Prop where
  f : Same F F'
  s : Same F' H'
  k : ∀ b o, b ∉ as → H b = some o → H' b = some o
  t : ∀ b, H b ≠ none → H' b ≠ none
  n : ∀ b, H b ≠ none → F' b = F b ∨ ∃ xs, H b = some (.tup xs)
  u : ∀ b xs, H' b = some (.tup xs) → H b = none ∨ H b = some (.tup xs)
/-- what may be a cell -/
def noTup : HO → Bool
  | .tup _ => false
  | _ => true
structure Kp (as : List Addr) (H H' : Hp) : Prop where
  k : ∀ b o, b ∉ as → H b = some o → H' b = some o
  t : ∀ b, H b ≠ none → H' b ≠ none
/-- the entry of a def -/
structure Ent where
  as : List Addr
  F : Hp
  H : Hp
structure Ow (Z : Ent) (F : Hp) (cs : List (Addr × HO)) (H : Hp) : Prop where
  g : Gr Z.as Z.F Z.H F H
  cf : ∀ c ∈ cs, F c.1 = none
  ch : ∀ c ∈ cs, H c.1 = some c.2
  nd : (cs.map (·.1)).Nodup
  ca : ∀ c ∈ cs, c.1 ∈ Z.as ∨ Z.H c.1 = none
  nt : ∀ c ∈ cs, noTup c.2 = true
/-- what a def asks of its cells -/
structure Pre (F : Hp) (cs : List (Addr × HO)) (H : Hp) : Prop where
  s : Same F H
  cf : ∀ c ∈ cs, F c.1 = none
  ch : ∀ c ∈ cs, H c.1 = some c.2
  nd : (cs.map (·.1)).Nodup
  nt : ∀ c ∈ cs, noTup c.2 = true
theorem Same.new {H : Hp} {p : Addr} {o : HO} (h : H p = none) : Same H (upd H p o) := fun b u e => by
  rw [upd_ne (ne_of_none e h)]
  exact e
theorem Same.upd2 {F H : Hp} {p : Addr} {o : HO} (s : Same F H) : Same (upd F p o) (upd H p o) := fun b u e => by
  by_cases hb : b = p
  · subst hb
    rw [upd_same] at e ⊢
    exact e
  · rw [upd_ne hb] at e ⊢
    exact s b u e
theorem Same.no {F H : Hp} {p : Addr} (s : Same F H) (h : H p = none) : F p = none := Same.free s h
section
variable {Z : Ent} {F F' H H' : Hp} {cs : List (Addr × HO)} {p a : Addr} {o o' : HO}
theorem Pre.start (P : Pre F cs H) : Ow ⟨cs.map (·.1), F, H⟩ F cs H where
  g := ⟨Same.refl _, P.s, fun _ _ _ e => e, fun _ e => e, fun _ _ => .inl rfl, fun _ _ e => .inr e⟩
  cf := P.cf
  ch := P.ch
  nd := P.nd
  ca := fun c hc => .inl (List.mem_map.mpr ⟨c, hc, rfl⟩)
  nt := P.nt
theorem Ow.s (O : Ow Z F cs H) : Same F H := O.g.s
theorem Ow.pre (O : Ow Z F cs H) : Pre F cs H := ⟨O.g.s, O.cf, O.ch, O.nd, O.nt⟩
theorem Ow.pre0 (O : Ow Z F cs H) : Pre F [] H := ⟨O.g.s, (fun _ h => nomatch h), (fun _ h => nomatch h), List.nodup_nil, fun _ h => nomatch h⟩
theorem Ow.pre1 (O : Ow Z F cs H) (i : Nat) (e : cs[i]? = some (a, o)) : Pre F [(a, o)] H := by
  have m := List.mem_of_getElem? e
  refine ⟨O.g.s, fun c hc => ?_, fun c hc => ?_, by simp, fun c hc => ?_⟩
  · rw [List.mem_singleton.mp hc]; exact O.cf _ m
  · rw [List.mem_singleton.mp hc]; exact O.ch _ m
  · rw [List.mem_singleton.mp hc]; exact O.nt _ m
theorem Ow.at (O : Ow Z F cs H) (i : Nat) (e : cs[i]? = some (a, o)) : H a = some o := O.ch _ (List.mem_of_getElem? e)
theorem Ow.no (O : Ow Z F cs H) (h : H p = none) : F p = none := Same.no O.s h
theorem Gr.new (g : Gr Z.as Z.F Z.H F H) (h : H p = none) : Gr Z.as Z.F Z.H F (upd H p o) where
  f := g.f
  s := g.s.trans (Same.new h)
  k := fun b u hb e => Same.new h b u (g.k b u hb e)
  t := fun b e z => by
    by_cases hb : b = p
    · subst hb; exact g.t _ e h
    · rw [upd_ne hb] at z; exact g.t b e z
  n := g.n
  u := fun b xs e => by
    by_cases hb : b = p
    · subst hb
      cases q : Z.H b with
      | none => exact .inl rfl
      | some u => exact absurd h (g.t b (by rw [q]; simp))
    · rw [upd_ne hb] at e; exact g.u b xs e
/-- a new cell -/
theorem Ow.new (O : Ow Z F cs H) (h : H p = none) (hn : noTup o = true := by rfl) : Ow Z F ((p, o) :: cs) (upd H p o) where
  g := O.g.new h
  cf := fun c hc => by
    rcases List.mem_cons.mp hc with rfl | hc
    · exact O.no h
    · exact O.cf c hc
  ch := fun c hc => by
    rcases List.mem_cons.mp hc with rfl | hc
    · exact upd_same
    · rw [upd_ne (ne_of_none (O.ch c hc) h)]; exact O.ch c hc
  nd := by
    rw [List.map_cons, List.nodup_cons]
    refine ⟨fun hm => ?_, O.nd⟩
    obtain ⟨c, hc, e⟩ := List.mem_map.mp hm
    have z := O.ch c hc
    rw [e] at z
    rw [z] at h
    cases h
  ca := fun c hc => by
    rcases List.mem_cons.mp hc with rfl | hc
    · refine .inr ?_
      cases q : Z.H p with
      | none => rfl
      | some u => exact absurd h (O.g.t p (by rw [q]; simp))
    · exact O.ca c hc
  nt := fun c hc => by
    rcases List.mem_cons.mp hc with rfl | hc
    · exact hn
    · exact O.nt c hc
/-- a new thing that is read alone -/
theorem Ow.put (O : Ow Z F cs H) (h : H p = none) : Ow Z (upd F p o) cs (upd H p o) where
  g := {
    f := O.g.f.trans (Same.new (O.no h))
    s := Same.upd2 O.g.s
    k := (O.g.new h).k
    t := (O.g.new h).t
    n := fun b e => by
      have hb : b ≠ p := fun z => by subst z; exact O.g.t _ e h
      rw [upd_ne hb]
      exact O.g.n b e
    u := (O.g.new h).u }
  cf := fun c hc => by rw [upd_ne (ne_of_none (O.ch c hc) h)]; exact O.cf c hc
  ch := fun c hc => by rw [upd_ne (ne_of_none (O.ch c hc) h)]; exact O.ch c hc
  nd := O.nd
  ca := O.ca
  nt := O.nt
theorem map_set_fst {i : Nat} (e : cs[i]? = some (a, o)) : (cs.set i (a, o')).map (·.1) = cs.map (·.1) := by
  rw [List.map_set]
  obtain ⟨h, e'⟩ := List.getElem?_eq_some_iff.mp e
  refine List.ext_getElem? fun j => ?_
  by_cases hj : i = j
  · subst hj
    rw [List.getElem?_set_self (by simpa using h), List.getElem?_map, e]
    rfl
  · rw [List.getElem?_set_ne hj]
theorem nd_other {i : Nat} (nd : (cs.map (·.1)).Nodup) (e : cs[i]? = some (a, o)) {c : Addr × HO} (hc : c ∈ cs.set i (a, o')) : c = (a, o') ∨ (c ∈ cs ∧ c.1 ≠ a) := by
  obtain ⟨j, hj⟩ := List.mem_iff_getElem?.mp hc
  by_cases hij : i = j
  · subst hij
    obtain ⟨h, _⟩ := List.getElem?_eq_some_iff.mp e
    rw [List.getElem?_set_self h] at hj
    exact .inl (Option.some.inj hj).symm
  · rw [List.getElem?_set_ne hij] at hj
    refine .inr ⟨List.mem_of_getElem? hj, fun z => hij ?_⟩
    have h1 : (cs.map (·.1))[i]? = some a := by rw [List.getElem?_map, e]; rfl
    have h2 : (cs.map (·.1))[j]? = some a := by rw [List.getElem?_map, hj, ← z]; rfl
    exact nd_ix nd h1 h2
/-- a cell is changed -/
theorem Ow.set (O : Ow Z F cs H) (i : Nat) (o' : HO) (e : cs[i]? = some (a, o)) (hn : noTup o' = true := by rfl) : Ow Z F (cs.set i (a, o')) (upd H a o') := by
  have m := List.mem_of_getElem? e
  have ha := O.ca _ m
  refine ⟨⟨O.g.f, fun b u q => ?_, fun b u hb q => ?_, fun b q z => ?_, O.g.n, fun b xs q => ?_⟩, fun c hc => ?_, fun c hc => ?_, ?_, fun c hc => ?_, fun c hc => ?_⟩
  · have hb : b ≠ a := fun z => by subst z; rw [O.cf _ m] at q; cases q
    rw [upd_ne hb]
    exact O.g.s b u q
  · have hba : b ≠ a := fun z => by
      subst z
      rcases ha with ha | ha
      · exact hb ha
      · have q' : Z.H b = some u := q
        have ha' : Z.H b = none := ha
        rw [ha'] at q'; cases q'
    rw [upd_ne hba]
    exact O.g.k b u hb q
  · by_cases hb : b = a
    · subst hb; rw [upd_same] at z; cases z
    · rw [upd_ne hb] at z; exact O.g.t b q z
  · by_cases hb : b = a
    · subst hb
      rw [upd_same] at q
      rw [Option.some.inj q] at hn
      cases hn
    · rw [upd_ne hb] at q; exact O.g.u b xs q
  · rcases nd_other O.nd e hc with rfl | ⟨h1, _⟩
    · exact O.cf (a, o) m
    · exact O.cf c h1
  · rcases nd_other O.nd e hc with rfl | ⟨h1, h2⟩
    · exact upd_same
    · rw [upd_ne h2]; exact O.ch c h1
  · rw [map_set_fst e]; exact O.nd
  · rcases nd_other O.nd e hc with rfl | ⟨h1, _⟩
    · exact ha
    · exact O.ca c h1
  · rcases nd_other O.nd e hc with rfl | ⟨h1, _⟩
    · exact hn
    · exact O.nt c h1
theorem mem_erase {i : Nat} {c : Addr × HO} (h : c ∈ cs.eraseIdx i) : c ∈ cs := List.mem_of_mem_eraseIdx h
theorem nd_erase {i : Nat} (h : (cs.map (·.1)).Nodup) : ((cs.eraseIdx i).map (·.1)).Nodup := by
  exact h.sublist ((List.eraseIdx_sublist cs i).map (fun x => x.1))
/-- a cell that nobody changes any more (it was not there at the entry) -/
theorem Ow.frz (O : Ow Z F cs H) (i : Nat) (e : cs[i]? = some (a, o)) (hz : Z.H a = none) : Ow Z (upd F a o) (cs.eraseIdx i) H := by
  have m := List.mem_of_getElem? e
  have h1 : ∀ c ∈ cs.eraseIdx i, c.1 ≠ a := fun c hc z => by
    have nd := O.nd
    obtain ⟨hi, e'⟩ := List.getElem?_eq_some_iff.mp e
    obtain ⟨j, hj⟩ := List.mem_iff_getElem?.mp hc
    rw [List.getElem?_eraseIdx] at hj
    have h1 : (cs.map (·.1))[i]? = some a := by rw [List.getElem?_map, e]; rfl
    by_cases hji : j < i
    · rw [if_pos hji] at hj
      have h2 : (cs.map (·.1))[j]? = some a := by rw [List.getElem?_map, hj, ← z]; rfl
      have := nd_ix nd h1 h2
      omega
    · rw [if_neg hji] at hj
      have h2 : (cs.map (·.1))[j + 1]? = some a := by rw [List.getElem?_map, hj, ← z]; rfl
      have := nd_ix nd h1 h2
      omega
  refine ⟨⟨O.g.f.trans (Same.new (O.cf _ m)), fun b u q => ?_, O.g.k, O.g.t, fun b q => ?_, O.g.u⟩, fun c hc => ?_, fun c hc => O.ch c (mem_erase hc), nd_erase O.nd, fun c hc => O.ca c (mem_erase hc), fun c hc => O.nt c (mem_erase hc)⟩
  · by_cases hb : b = a
    · subst hb; rw [upd_same] at q; rw [← q]; exact O.ch _ m
    · rw [upd_ne hb] at q; exact O.g.s b u q
  · have hb : b ≠ a := fun z => by subst z; exact q hz
    rw [upd_ne hb]
    exact O.g.n b q
  · rw [upd_ne (h1 c hc)]; exact O.cf c (mem_erase hc)
theorem Ow.drop (O : Ow Z F cs H) (i : Nat) : Ow Z F (cs.eraseIdx i) H := ⟨O.g, fun c hc => O.cf c (mem_erase hc), fun c hc => O.ch c (mem_erase hc), nd_erase O.nd, fun c hc => O.ca c (mem_erase hc), fun c hc => O.nt c (mem_erase hc)⟩
theorem Ow.frzS (O : Ow Z F cs H) (i : Nat) (e : cs[i]? = some (a, o)) : Same F (upd F a o) := Same.new (O.cf _ (List.mem_of_getElem? e))
theorem Ow.putS (O : Ow Z F cs H) (h : H p = none) : Same F (upd F p o) := Same.new (O.no h)
theorem Gr.then {as : List Addr} (g0 : Gr Z.as Z.F Z.H F H) (g : Gr as F H F' H') (ha : ∀ b ∈ as, b ∈ Z.as ∨ Z.H b = none) : Gr Z.as Z.F Z.H F' H' where
  f := g0.f.trans g.f
  s := g.s
  k := fun b u hb e => by
    refine g.k b u (fun z => ?_) (g0.k b u hb e)
    rcases ha b z with h | h
    · exact hb h
    · rw [h] at e; cases e
  t := fun b e => g.t b (g0.t b e)
  n := fun b e => by
    rcases g0.n b e with h0 | h0
    · rcases g.n b (g0.t b e) with h1 | ⟨xs, hx⟩
      · exact .inl (h1.trans h0)
      · rcases g0.u b xs hx with z | z
        · exact absurd z e
        · exact .inr ⟨xs, z⟩
    · exact .inr h0
  u := fun b xs e => by
    rcases g.u b xs e with z | z
    · refine .inl ?_
      cases q : Z.H b with
      | none => rfl
      | some u => exact absurd z (g0.t b (by rw [q]; simp))
    · exact g0.u b xs z
theorem Gr.none {as : List Addr} (g : Gr as F H F' H') {c : Addr × HO} (h : H c.1 = some c.2) (hn : noTup c.2 = true) (hf : F c.1 = Option.none) : F' c.1 = Option.none := by
  rcases g.n c.1 (by rw [h]; simp) with z | ⟨xs, z⟩
  · exact z.trans hf
  · rw [h] at z
    rw [Option.some.inj z] at hn
    cases hn
/-- behind a call that changes none of our cells -/
theorem Ow.call0 (O : Ow Z F cs H) (g : Gr [] F H F' H') : Ow Z F' cs H' where
  g := O.g.then g (fun _ h => nomatch h)
  cf := fun c hc => g.none (O.ch c hc) (O.nt c hc) (O.cf c hc)
  ch := fun c hc => g.k _ _ (fun h => nomatch h) (O.ch c hc)
  nd := O.nd
  ca := O.ca
  nt := O.nt
/-- .. one -/
theorem Ow.call1 (O : Ow Z F cs H) (g : Gr [a] F H F' H') (i : Nat) (e : cs[i]? = some (a, o)) (h' : H' a = some o') (hn : noTup o' = true := by rfl) : Ow Z F' (cs.set i (a, o')) H' := by
  have m := List.mem_of_getElem? e
  refine ⟨O.g.then g (fun b hb => by rw [List.mem_singleton.mp hb]; exact O.ca _ m), fun c hc => ?_, fun c hc => ?_, by rw [map_set_fst e]; exact O.nd, fun c hc => ?_, fun c hc => ?_⟩
  · rcases nd_other O.nd e hc with rfl | ⟨h1, _⟩
    · exact g.none (c := (a, o)) (O.ch (a, o) m) (O.nt (a, o) m) (O.cf (a, o) m)
    · exact g.none (O.ch c h1) (O.nt c h1) (O.cf c h1)
  · rcases nd_other O.nd e hc with rfl | ⟨h1, h2⟩
    · exact h'
    · exact g.k _ _ (fun z => h2 (List.mem_singleton.mp z)) (O.ch c h1)
  · rcases nd_other O.nd e hc with rfl | ⟨h1, _⟩
    · exact O.ca (a, o) m
    · exact O.ca c h1
  · rcases nd_other O.nd e hc with rfl | ⟨h1, _⟩
    · exact hn
    · exact O.nt c h1
/-- a cell that a call made -/
theorem Ow.add {H0 : Hp} {F0 : Hp} (O : Ow Z F cs H) (O0 : Ow Z F0 cs' H0) (hk : ∀ c ∈ cs, c.1 ∈ cs'.map (·.1)) (hn : H0 p = none) (hf : F p = none) (h : H p = some o) (ht : noTup o = true := by rfl) : Ow Z F ((p, o) :: cs) H where
  g := O.g
  cf := fun c hc => by
    rcases List.mem_cons.mp hc with rfl | hc
    · exact hf
    · exact O.cf c hc
  ch := fun c hc => by
    rcases List.mem_cons.mp hc with rfl | hc
    · exact h
    · exact O.ch c hc
  nd := by
    rw [List.map_cons, List.nodup_cons]
    refine ⟨fun hm => ?_, O.nd⟩
    obtain ⟨c, hc, e⟩ := List.mem_map.mp hm
    obtain ⟨c', hc', e'⟩ := List.mem_map.mp (hk c hc)
    have z := O0.ch c' hc'
    rw [e', e] at z
    rw [z] at hn
    cases hn
  ca := fun c hc => by
    rcases List.mem_cons.mp hc with rfl | hc
    · refine .inr ?_
      cases q : Z.H p with
      | none => rfl
      | some u => exact absurd hn (O0.g.t p (by rw [q]; simp))
    · exact O.ca c hc
  nt := fun c hc => by
    rcases List.mem_cons.mp hc with rfl | hc
    · exact ht
    · exact O.nt c hc
theorem Ow.kp (O : Ow Z F cs H) : Kp Z.as Z.H H := ⟨O.g.k, O.g.t⟩
theorem Kp.of {as : List Addr} {H0 H1 : Hp} (g : Gr as F H0 F' H1) : Kp as H0 H1 := ⟨g.k, g.t⟩
/-- an error of a call leaves this def -/
theorem Ow.kpCall {as : List Addr} {H1 : Hp} (O : Ow Z F cs H) (k : Kp as H H1) (ha : ∀ b ∈ as, ∃ o, (b, o) ∈ cs) : Kp Z.as Z.H H1 where
  k := fun b u hb e => by
    refine k.k b u (fun z => ?_) (O.g.k b u hb e)
    obtain ⟨o, hc⟩ := ha b z
    rcases O.ca _ hc with h | h
    · exact hb h
    · have h' : Z.H b = none := h
      rw [h'] at e; cases e
  t := fun b e => k.t b (O.g.t b e)
theorem Ow.kp0 {H1 : Hp} (O : Ow Z F cs H) (k : Kp [] H H1) : Kp Z.as Z.H H1 := O.kpCall k fun _ h => nomatch h
theorem Ow.kp1 {H1 : Hp} (O : Ow Z F cs H) (k : Kp [a] H H1) (i : Nat) (e : cs[i]? = some (a, o)) : Kp Z.as Z.H H1 := O.kpCall k fun b hb => by
  rw [List.mem_singleton.mp hb]
  exact ⟨o, List.mem_of_getElem? e⟩
end
end PG

set_option Elab.async false
set_option linter.all false
set_option maxRecDepth 100000
set_option maxHeartbeats 4000000
namespace PG
open PySem L2
open PySem.W (T3 T4 Datum DatumOrd Holds HoldAll EachIs)
/-! ### rules over typed data -/
section
variable {X : Cx} {pins : List (Addr × Obj)} {σ : St} {H : Hp} {s : Shared} {v : V} {u : Value} {vs : List V} {us : List Value}
theorem R.holds {a : Type} [Py a] [DecidableEq a] [Datum a] [IsD a] {x : a} (I : Inv X pins σ H s) (h : R H v x) (r : RelV v u) : Holds s.heap u x := by
  obtain ⟨as, q⟩ := Dp.reads I _ _ _ (Rep.dp _ _ h) r
  rw [IsD.eq] at q
  exact ⟨as, q⟩
theorem RL.holds {a : Type} [Py a] [DecidableEq a] [Datum a] [IsD a] {xs : List a} (I : Inv X pins σ H s) (h : RL H vs xs) (r : Vals vs us) : HoldAll s.heap us xs := by
  obtain ⟨as, q⟩ := Dp.readsAll I _ _ _ (RepA.dp _ _ h) r
  rw [map_toD] at q
  exact ⟨as, q⟩
end
section
variable {X : Cx} (a : Type) [Py a] [DecidableEq a] [Datum a] [IsD a]
def rEqT : R2 := fun x y H Q => ∃ p q : a, R H x p ∧ R H y q ∧ Q (.bl (decide (p = q))) H
def rNeT : R2 := fun x y H Q => ∃ p q : a, R H x p ∧ R H y q ∧ Q (.bl (decide (p ≠ q))) H
theorem op_eqT (hu : X.A.units + 64 < cLine) (hd : Datum.depth a ≤ 64 := by decide) : OpR X (compareOp .Eq) (rEqT a) := by
  intro pins s σ H x y v u Q I rx ry h
  obtain ⟨p, q, hp, hq, k⟩ := h
  exact PySem.W.eq_datum (hp.holds I rx) (hq.holds I ry) (by omega) ⟨.bl _, H, I, rfl, k⟩
theorem op_neT (hu : X.A.units + 64 < cLine) (hd : Datum.depth a ≤ 64 := by decide) : OpR X (compareOp .NotEq) (rNeT a) := by
  intro pins s σ H x y v u Q I rx ry h
  obtain ⟨p, q, hp, hq, k⟩ := h
  exact PySem.W.ne_datum (hp.holds I rx) (hq.holds I ry) (by omega) ⟨.bl _, H, I, rfl, k⟩
def rInT (neg : Bool) : R2 := fun x y H Q => ∃ (p : a) (l : Addr) (vs : List V) (ys : List a), R H x p ∧ y = .ref l ∧ (H l = some (.lst vs) ∨ H l = some (.tup vs)) ∧ RL H vs ys ∧ Q (.bl (if neg then decide (p ∉ ys) else decide (p ∈ ys))) H
end
section
variable {X : Cx} (a : Type) [Py a] [DecidableEq a] [Datum a] [IsD a]
theorem op_inT (hu : X.A.units + 64 < cLine) (hd : Datum.depth a ≤ 60 := by decide) : OpR X (compareOp .In) (rInT a false) := by
  intro pins s σ H x y v u Q I rx ry h
  obtain ⟨p, l, vs, ys, hp, rfl, hl, hy, k⟩ := h
  cases ry
  rcases hl with hl | hl
  · obtain ⟨its, rv, hL, _⟩ := I.list (SqL.of (K := X.K) hl)
    exact PySem.W.in_list_datum hL.isList (by simpa using hy.holds I rv) (hp.holds I rx) (by omega) ⟨.bl _, H, I, rfl, k⟩
  · obtain ⟨its, rv, hL, _⟩ := I.tuple (SqT.of (K := X.K) hl)
    exact PySem.W.in_tuple_datum (show s.heap.IsTuple l its.toArray from hL) (by simpa using hy.holds I rv) (hp.holds I rx) (by omega) ⟨.bl _, H, I, rfl, k⟩
theorem op_ninT (hu : X.A.units + 64 < cLine) (hd : Datum.depth a ≤ 60 := by decide) : OpR X (compareOp .NotIn) (rInT a true) := by
  intro pins s σ H x y v u Q I rx ry h
  obtain ⟨p, l, vs, ys, hp, rfl, hl, hy, k⟩ := h
  cases ry
  rcases hl with hl | hl
  · obtain ⟨its, rv, hL, _⟩ := I.list (SqL.of (K := X.K) hl)
    exact PySem.W.notIn_list_datum hL.isList (by simpa using hy.holds I rv) (hp.holds I rx) (by omega) ⟨.bl _, H, I, rfl, k⟩
  · obtain ⟨its, rv, hL, _⟩ := I.tuple (SqT.of (K := X.K) hl)
    exact PySem.W.notIn_tuple_datum (show s.heap.IsTuple l its.toArray from hL) (by simpa using hy.holds I rv) (hp.holds I rx) (by omega) ⟨.bl _, H, I, rfl, k⟩
end

/-! ### sorted -/
/-- how data may be sorted: all are tuples with an item, or none is a tuple or None -/
class SortB (a : Type) [DecidableEq a] [Datum a] : Prop where
  ok : (∀ x : a, ∃ d r, Datum.toD x = .tuple (d :: r)) ∨ ∀ x : a, Datum.toD x ≠ .none ∧ ∀ ds, Datum.toD x ≠ .tuple ds
instance : SortB Int := ⟨.inr fun x => ⟨(fun e => nomatch (show PyData.int x = .none from e)), fun ds e => nomatch (show PyData.int x = .tuple ds from e)⟩⟩
instance : SortB Str := ⟨.inr fun x => ⟨(fun e => nomatch (show PyData.str x = .none from e)), fun ds e => nomatch (show PyData.str x = .tuple ds from e)⟩⟩
section
variable {a b c : Type} [DecidableEq a] [Datum a] [DecidableEq b] [Datum b] [DecidableEq c] [Datum c]
instance : SortB (List a) := ⟨.inr fun x => ⟨(fun e => nomatch (show PyData.list _ = .none from e)), fun ds e => nomatch (show PyData.list _ = .tuple ds from e)⟩⟩
instance : SortB (a × b) := ⟨.inl fun x => ⟨_, _, rfl⟩⟩
instance : SortB (T3 a b c) := ⟨.inl fun x => ⟨_, _, rfl⟩⟩
end
/-- Python's order -/
def leT {a : Type} [DecidableEq a] [DatumOrd a] (x y : a) : Bool := !DatumOrd.lt y x
def sortT {a : Type} [DecidableEq a] [DatumOrd a] (xs : List a) : List a := xs.mergeSort leT
theorem dataLe_T {a β : Type} [DecidableEq a] [DatumOrd a] (f : β → a) : PySem.W.dataLe false (fun b => Datum.toD (f b)) = fun x y => leT (f x) (f y) := by
  funext x y
  rw [PySem.W.dataLe_eq]
  show (!PySem.W.dataLt (Datum.toD (f y)) (Datum.toD (f x))) = _
  rw [DatumOrd.lt_eq]
  rfl
section
variable {a : Type} [Py a] [DecidableEq a] [DatumOrd a] [IsD a] {H : Hp}
theorem each_pairs : ∀ {vs : List V} {xs : List a} {us : List Value}, RL H vs xs → Vals vs us → EachIs (fun (u : Value) (p : V × a) => RelV p.1 u ∧ R H p.1 p.2) us (vs.zip xs)
  | _, [], _, h, r => by
    rw [RL.nil_ h] at r ⊢
    cases r
    exact .nil
  | _, x :: xs, _, h, r => by
    obtain ⟨w, ws, rfl, h1, h2⟩ := RL.cons_ h
    cases r with
    | cons r1 r2 => exact .cons ⟨r1, h1⟩ (each_pairs h2 r2)
theorem pairs_vals : ∀ {ps : List (V × a)} {us : List Value}, EachIs (fun (u : Value) (p : V × a) => RelV p.1 u ∧ R H p.1 p.2) us ps → Vals (ps.map (·.1)) us ∧ RL H (ps.map (·.1)) (ps.map (·.2))
  | _, _, .nil => ⟨.nil, RL.nil⟩
  | _, _, .cons ⟨r1, h1⟩ t => ⟨.cons r1 (pairs_vals t).1, RL.cons h1 (pairs_vals t).2⟩
theorem each_imp {β γ : Type} {A B : β → γ → Prop} (f : ∀ x y, A x y → B x y) : ∀ {xs : List β} {ys : List γ}, EachIs A xs ys → EachIs B xs ys
  | _, _, .nil => .nil
  | _, _, .cons h t => .cons (f _ _ h) (each_imp f t)
theorem zip_snd : ∀ {vs : List V} {xs : List a}, vs.length = xs.length → (vs.zip xs).map (·.2) = xs
  | [], [], _ => rfl
  | v :: vs, x :: xs, h => by
    rw [List.zip_cons_cons, List.map_cons, zip_snd (by simpa using h)]
  | [], _ :: _, h => by simp at h
  | _ :: _, [], h => by simp at h
theorem sort_zip {vs : List V} {xs : List a} (h : vs.length = xs.length) : ((vs.zip xs).mergeSort fun p q => leT p.2 q.2).map (·.2) = sortT xs := by
  unfold sortT
  rw [List.map_mergeSort (s := leT) (fun _ _ _ _ => rfl), zip_snd h]
end
section
variable {a : Type} [Py a] [DecidableEq a] [DatumOrd a] [IsD a] {H : Hp}
def sortV (ws : List V) (xs : List a) : List V := ((ws.zip xs).mergeSort fun p q => leT p.2 q.2).map (·.1)
theorem RL.pairs : ∀ {ws : List V} {xs : List a}, RL H ws xs → ∀ p ∈ ws.zip xs, R H p.1 p.2
  | _, [], _, p, hp => by simp at hp
  | _, x :: xs, h, p, hp => by
    obtain ⟨w, ws, rfl, h1, h2⟩ := RL.cons_ h
    rw [List.zip_cons_cons] at hp
    rcases List.mem_cons.mp hp with rfl | hp
    · exact h1
    · exact RL.pairs h2 p hp
theorem RL.of_pairs : ∀ {ps : List (V × a)}, (∀ p ∈ ps, R H p.1 p.2) → RL H (ps.map (·.1)) (ps.map (·.2))
  | [], _ => RL.nil
  | p :: ps, h => RL.cons (h p List.mem_cons_self) (RL.of_pairs fun q hq => h q (List.mem_cons_of_mem _ hq))
theorem RL.sorted {ws : List V} {xs : List a} (h : RL H ws xs) : RL H (sortV ws xs) (sortT xs) := by
  have q : RL H (sortV ws xs) (((ws.zip xs).mergeSort fun p q => leT p.2 q.2).map (·.2)) := RL.of_pairs fun p hp => h.pairs p (List.mem_mergeSort.mp hp)
  rw [sort_zip h.len] at q
  exact q
end
section
variable {X : Cx} (a : Type) [Py a] [DecidableEq a] [DatumOrd a] [IsD a]
/-- sorted(xs) of a list: a new list -/
def rSortedT : List V → Hp → VK → Prop := fun vs H Q => ∃ (l : Addr) (ws : List V) (xs : List a), vs = [.ref l] ∧ H l = some (.lst ws) ∧ RL H ws xs ∧ ∀ (p : Addr), H p = none → Q (.ref p) (upd H p (.lst (sortV ws xs)))
theorem cr_sortedT [SortB a] (hu : X.A.units + 128 < cLine) (hd : Datum.depth a ≤ 100 := by decide) : CallR X (.builtin "sorted") (rSortedT a) := by
  intro pins s σ H vs us Q I r h
  obtain ⟨l, ws, xs, rfl, hl, hx, k⟩ := h
  obtain ⟨its, rv, hL, hz⟩ := I.list (SqL.of (K := X.K) hl)
  rw [Vals.ref1 r]
  have hlen : ws.length = xs.length := hx.len
  have hE := each_pairs hx rv
  refine PySem.W.sorted_data (bs := ws.zip xs) (enc := fun p => Datum.toD p.2) hL.isList hE (each_imp (fun u p hp => hp.2.holds I hp.1) hE) (PySem.W.AllAlike.of fun p q => DatumOrd.alike p.2 q.2) ?_ (by rw [List.length_zip, ← hlen, Nat.min_self]; exact hz) (fun p _ => ?_) fun out ho he => ?_
  · rcases SortB.ok (a := a) with q | q
    · exact PySem.W.Sortable.tuples fun p => q p.2
    · exact PySem.W.Sortable.others fun p => q p.2
  · have := Datum.depth_le p.2
    omega
  · rw [dataLe_T (fun p : V × a => p.2)] at he
    obtain ⟨q1, q2⟩ := pairs_vals he
    obtain ⟨ep, he'⟩ := PyProof.Rows.sortedAll_at s.heap its out.toArray
    refine ⟨.ref _, upd H (s.heap.objs.size + 1) (.lst _), I.laid (t' := s.toks) (fun _ _ => PyProof.Rows.sortedAll_old) (Nat.le_succ _) ⟨?_, out, ep, q1, he'⟩, rfl, k _ (I.hok.fresh (Nat.le_succ _))⟩
    rw [List.length_map, List.length_mergeSort, List.length_zip, ← hlen, Nat.min_self]
    exact hz
end
end PG

set_option Elab.async false
set_option linter.all false
set_option maxRecDepth 100000
set_option maxHeartbeats 4000000
namespace PG
open PySem PySem.Spec PyProof.Rows L2
open PySem.W (T3 T4 Datum DatumOrd Holds HoldAll EachIs)

instance (i j : Int) : Decidable (CMulW i j) := inferInstanceAs (Decidable (_ < _))
instance (i j : Int) : Decidable (CDivW i j) := inferInstanceAs (Decidable (_ ∧ _))
instance (i j : Int) : Decidable (CPow i j) := inferInstanceAs (Decidable (_ ∧ _ ∧ _))
theorem szl : sizeLine = 16777216 := sizeLine_eq
theorem lt_line {n : Nat} (h : n < 16777216) : n < sizeLine := by rw [szl]; exact h
theorem le_line {n : Nat} (h : n < 16777216) : n ≤ sizeLine := Nat.le_of_lt (lt_line h)
theorem len_line {vs : List V} (h : vs.length < 16777216 := by (show _ < 16777216); simp) : vs.length ≤ sizeLine := le_line h
theorem SqLF {K : PySem.W.Frag} {F H : Hp} {p : Addr} {vs : List V} (s : Same F H) (h : F p = some (.lst vs)) : SqL K H p vs := SqL.of (s _ _ h)
theorem SqTF {K : PySem.W.Frag} {F H : Hp} {p : Addr} {vs : List V} (s : Same F H) (h : F p = some (.tup vs)) : SqT K H p vs := SqT.of (s _ _ h)

/-! ### mirrors of what may go wrong -/
def setI {a : Type} (xs : List a) (i : Int) (y : a) : M (List a) := match ixN xs.length i with
  | some j => .ok (xs.set j y)
  | none => bad
def popI {a : Type} (xs : List a) (i : Int) : M (a × List a) := if xs.length < 16777216 then (match ixN xs.length i with
    | some j => (match xs[j]? with
      | some y => .ok (y, xs.eraseIdx j)
      | none => bad)
    | none => bad) else bad
def popL {a : Type} (xs : List a) : M (a × List a) := match xs[xs.length - 1]? with
  | some y => .ok (y, xs.dropLast)
  | none => bad
def appL {a : Type} (xs : List a) (y : a) : M (List a) := if xs.length < 16777216 then .ok (xs ++ [y]) else bad
def rangeL (lo hi : Int) : List Int := (List.range (hi - lo).toNat).map fun (i : Nat) => lo + (i : Int)
def okR (i : Int) : Prop := -1000000 ≤ i ∧ i ≤ 1000000
instance (i : Int) : Decidable (okR i) := inferInstanceAs (Decidable (_ ∧ _))
theorem okR.lo {i : Int} (h : okR i) : -(2 ^ 62) ≤ i := by obtain ⟨a, b⟩ := h; omega
theorem okR.hi {i : Int} (h : okR i) : i < 2 ^ 62 := by obtain ⟨a, b⟩ := h; omega
theorem rangeL_get {lo hi : Int} {i : Nat} (h : i < (hi - lo).toNat) : (rangeL lo hi).drop i = (lo + (i : Int)) :: (rangeL lo hi).drop (i + 1) := by
  unfold rangeL
  rw [List.drop_eq_getElem_cons (by simpa using h)]
  simp
theorem rangeL_end {lo hi : Int} : (rangeL lo hi).drop (hi - lo).toNat = [] := by
  rw [List.drop_eq_nil_iff]
  unfold rangeL
  simp
section
variable {a b : Type} {Q : a → Prop} {E : String → Prop} {H : Hp}
theorem wp_setI {xs : List b} {i : Int} {y : b} {k : List b → M a} (h : wp (setI xs i y >>= k) Q E) : ∃ j, ixN xs.length i = some j ∧ wp (k (xs.set j y)) Q E := by
  unfold setI at h
  cases e : ixN xs.length i with
  | none => rw [e] at h; exact h.elim
  | some j => rw [e] at h; exact ⟨j, rfl, h⟩
theorem wp_popI {xs : List b} {i : Int} {k : b × List b → M a} (h : wp (popI xs i >>= k) Q E) : ∃ j y, seqIndex? i xs.length = some j ∧ -(2 ^ 63) ≤ i ∧ i < 2 ^ 63 ∧ xs[j]? = some y ∧ wp (k (y, xs.eraseIdx j)) Q E := by
  unfold popI at h
  by_cases hl : xs.length < 16777216
  · rw [if_pos hl] at h
    cases e : ixN xs.length i with
    | none => rw [e] at h; exact h.elim
    | some j =>
      rw [e] at h
      have h : wp ((match xs[j]? with
        | some y => .ok (y, xs.eraseIdx j)
        | none => bad) >>= k) Q E := h
      cases e2 : xs[j]? with
      | none => rw [e2] at h; exact h.elim
      | some y =>
        rw [e2] at h
        obtain ⟨q1, q2, q3, q4⟩ := ixN_seq e
        exact ⟨j, y, q1, by omega, by omega, e2, h⟩
  · rw [if_neg hl] at h
    exact h.elim
theorem wp_popL {xs : List b} {k : b × List b → M a} (h : wp (popL xs >>= k) Q E) : ∃ y, xs[xs.length - 1]? = some y ∧ wp (k (y, xs.dropLast)) Q E := by
  unfold popL at h
  cases e : xs[xs.length - 1]? with
  | none => rw [e] at h; exact h.elim
  | some y => rw [e] at h; exact ⟨y, rfl, h⟩
theorem wp_appL {xs : List b} {y : b} {k : List b → M a} (h : wp (appL xs y >>= k) Q E) : xs.length < sizeLine ∧ wp (k (xs ++ [y])) Q E := by
  unfold appL at h
  by_cases hl : xs.length < 16777216
  · rw [if_pos hl] at h
    exact ⟨lt_line hl, h⟩
  · rw [if_neg hl] at h
    exact h.elim
end
/-! loops, by what is left to be done -/
section
variable {i s r a c : Type} {Q : a → Prop} {E : String → Prop}
theorem loopN_L {b : i → s → M s} {xs : List i} {x : s} {k : s → M a} (h : wp (loopN b xs x >>= k) Q E) :
    ∃ L : List i → s → Prop, L xs x ∧ (∀ y ys x, L (y :: ys) x → wp (b y x) (fun x' => L ys x') E) ∧ ∀ x, L [] x → wp (k x) Q E := by
  refine ⟨fun ys x => wp (loopN b ys x >>= k) Q E, h, fun y ys x hx => ?_, fun x hx => hx⟩
  have hx : wp (loopN b (y :: ys) x >>= k) Q E := hx
  rw [wp_bind] at hx
  have hx : wp (b y x >>= fun x' => loopN b ys x') (fun x => wp (k x) Q E) E := hx
  rw [wp_bind] at hx
  cases e : b y x with
  | ok z =>
    rw [e] at hx
    exact wp_bind.mpr hx
  | error e2 =>
    rw [e] at hx
    cases e2 <;> exact hx
theorem loopM_L {b : i → s → M (Fl s r)} {xs : List i} {x : s} {k : Fl s r → M a} (h : wp (loopM b xs x >>= k) Q E) :
    ∃ L : List i → s → Prop, L xs x ∧ (∀ y ys x, L (y :: ys) x → wp (b y x) (fun f => match f with
      | .nx x' => L ys x'
      | .rt z => wp (k (.rt z)) Q E) E) ∧ ∀ x, L [] x → wp (k (.nx x)) Q E := by
  refine ⟨fun ys x => wp (loopM b ys x >>= k) Q E, h, fun y ys x hx => ?_, fun x hx => hx⟩
  have hx : wp (loopM b (y :: ys) x >>= k) Q E := hx
  rw [wp_bind] at hx
  cases e : b y x with
  | ok z =>
    have hx : wp (b y x >>= fun f => match f with
      | .nx x' => loopM b ys x'
      | .rt z => .ok (.rt z)) (fun x => wp (k x) Q E) E := hx
    rw [e] at hx
    cases z with
    | nx z => exact wp_bind.mpr hx
    | rt z => exact hx
  | error e2 =>
    have hx : wp (b y x >>= fun f => match f with
      | .nx x' => loopM b ys x'
      | .rt z => .ok (.rt z)) (fun x => wp (k x) Q E) E := hx
    rw [e] at hx
    cases e2 <;> exact hx
theorem whileN_L {c : s → M Bool} {b : s → M s} {n : Nat} {x : s} {k : s → M a} (h : wp (whileN c b n x >>= k) Q E) :
    ∃ L : Nat → s → Prop, L n x ∧ ∀ m x, L m x → wp (c x) (fun t => if t = true then ∃ m', m' < m ∧ wp (b x) (fun x' => L m' x') E else wp (k x) Q E) E := by
  refine ⟨fun n x => wp (whileN c b n x >>= k) Q E, h, fun m x hx => ?_⟩
  cases m with
  | zero => exact hx.elim
  | succ m =>
    have hx : wp ((c x >>= fun t => if t = true then b x >>= fun x' => whileN c b m x' else .ok x) >>= k) Q E := hx
    rw [wp_bind, wp_bind] at hx
    cases e : c x with
    | error e2 => rw [e] at hx; cases e2 <;> exact hx
    | ok t =>
      rw [e] at hx
      cases t with
      | false => exact hx
      | true =>
        refine ⟨m, Nat.lt_succ_self m, ?_⟩
        have hx : wp (b x >>= fun x' => whileN c b m x') (fun x => wp (k x) Q E) E := hx
        rw [wp_bind] at hx
        cases e : b x with
        | error e2 => rw [e] at hx; cases e2 <;> exact hx
        | ok z =>
          rw [e] at hx
          exact wp_bind.mpr hx
theorem whileM_L {c : s → M Bool} {b : s → M (Fl s r)} {n : Nat} {x : s} {k : Fl s r → M a} (h : wp (whileM c b n x >>= k) Q E) :
    ∃ L : Nat → s → Prop, L n x ∧ ∀ m x, L m x → wp (c x) (fun t => if t = true then ∃ m', m' < m ∧ wp (b x) (fun f => match f with
      | .nx x' => L m' x'
      | .rt z => wp (k (.rt z)) Q E) E else wp (k (.nx x)) Q E) E := by
  refine ⟨fun n x => wp (whileM c b n x >>= k) Q E, h, fun m x hx => ?_⟩
  cases m with
  | zero => exact hx.elim
  | succ m =>
    have hx : wp ((c x >>= fun t => if t = true then b x >>= fun
      | .nx x' => whileM c b m x'
      | .rt z => .ok (.rt z)
    else .ok (.nx x)) >>= k) Q E := hx
    rw [wp_bind, wp_bind] at hx
    cases e : c x with
    | error e2 => rw [e] at hx; cases e2 <;> exact hx
    | ok t =>
      rw [e] at hx
      cases t with
      | false => exact hx
      | true =>
        refine ⟨m, Nat.lt_succ_self m, ?_⟩
        have hx : wp (b x >>= fun
          | .nx x' => whileM c b m x'
          | .rt z => .ok (.rt z)) (fun x => wp (k x) Q E) E := hx
        rw [wp_bind] at hx
        cases e : b x with
        | error e2 => rw [e] at hx; cases e2 <;> exact hx
        | ok z =>
          rw [e] at hx
          cases z with
          | nx z => exact wp_bind.mpr hx
          | rt z => exact hx
/-- a comprehension: what it has made so far, then the items left; no exception leaves it -/
def compX (b : i → s → M (Option c × s)) : List i → List c → s → M (List c × s)
  | [], acc, x => .ok (acc, x)
  | y :: ys, acc, x => nox (b y x) >>= fun p => compX b ys (match p.1 with
    | some z => acc ++ [z]
    | none => acc) p.2
/-- the list is short enough -/
def compS (b : i → s → M (Option c × s)) (xs : List i) (x : s) : M (List c × s) := chk (xs.length < 16777216) >>= fun _ => compX b xs [] x
theorem compX_L {b : i → s → M (Option c × s)} {k : List c × s → M a} : ∀ {xs : List i} {acc : List c} {x : s}, wp (compX b xs acc x >>= k) Q E →
    ∃ L : List i → List c → s → Prop, L xs acc x ∧ (∀ y ys acc x, L (y :: ys) acc x → wp (b y x) (fun p => L ys (match p.1 with
      | some z => acc ++ [z]
      | none => acc) p.2) (fun _ => False)) ∧ ∀ acc x, L [] acc x → wp (k (acc, x)) Q E := by
  intro xs acc x h
  refine ⟨fun ys acc x => wp (compX b ys acc x >>= k) Q E, h, fun y ys acc x hx => ?_, fun acc x hx => hx⟩
  have hx : wp ((nox (b y x) >>= fun p => compX b ys (match p.1 with
    | some z => acc ++ [z]
    | none => acc) p.2) >>= k) Q E := hx
  rw [wp_bind] at hx
  obtain ⟨p, e, hx⟩ := wp_nox hx
  rw [e]
  exact wp_bind.mpr hx
theorem compS_L {b : i → s → M (Option c × s)} {k : List c × s → M a} {xs : List i} {x : s} (h : wp (compS b xs x >>= k) Q E) : xs.length < 16777216 ∧
    ∃ L : List i → List c → s → Prop, L xs [] x ∧ (∀ y ys acc x, L (y :: ys) acc x → wp (b y x) (fun p => L ys (match p.1 with
      | some z => acc ++ [z]
      | none => acc) p.2) (fun _ => False)) ∧ ∀ acc x, L [] acc x → wp (k (acc, x)) Q E := by
  unfold compS at h
  rw [wp_bind] at h
  obtain ⟨h1, h2⟩ := wp_chk h
  exact ⟨h1, compX_L (wp_bind.mpr h2)⟩
end
theorem drop_at {a : Type} {xs : List a} {i : Nat} {x : a} (h : xs[i]? = some x) : xs.drop i = x :: xs.drop (i + 1) := by
  obtain ⟨h1, h2⟩ := List.getElem?_eq_some_iff.mp h
  rw [List.drop_eq_getElem_cons h1, h2]
theorem drop_end {a : Type} {xs : List a} {vs : List V} (h : vs.length = xs.length) : xs.drop vs.length = [] := by
  rw [h, List.drop_length]

/-! ### a def as it stands -/
structure Df (K : PySem.W.Frag) (mg : Str → Option Value) (x qual : Str) (st : Stmt) (ps : List Str) : Prop where
  ex : ∃ f fd, Fun K x qual st f fd ∧ mg x = some (.ref f) ∧ Binds K fd ps []
structure Ca (P : Program) (w : World) (K : PySem.W.Frag) (mg : Str → Option Value) (base : Heap) (x : Str) (k : Nat) (ps : List Str) (sp : Sp) : Prop where
  ex : ∃ f fd, FnOk P w K mg base (L2.CX P w) k f fd ps sp ∧ mg x = some (.ref f) ∧ PySem.W.keepIn K (.ref f) = true ∧ Binds K fd ps []
/-- an exception class of the program -/
structure Xc (K : PySem.W.Frag) (mg : Str → Option Value) (x : Str) (C : Addr) : Prop where
  g : mg x = some (.ref C)
  x : PySem.W.excIn K C [.type "ValueError", .type "Exception", .type "BaseException", .type "object"] "ValueError.__new__" = true
  k : PySem.W.keepIn K (.ref C) = true
  b : PySem.W.subIn K (.ref C) (.type "BaseException") = some true
  t : PySem.W.typeIn K (.ref C) = some (.type "type")
section
variable {P : Program} {w : World} {K : PySem.W.Frag} {mg : Str → Option Value} {base : Heap}
theorem Ca.mk' {x qual : Str} {st : Stmt} {N ps : List Str} {k : Nat} {sp : Sp} (D : Df K mg x qual st ps) (S : FnScope N ps (defScope st)) (len : ∀ vs H Q E, sp vs H Q E → vs.length = ps.length)
    (hbody : ∀ (qual' : Str) (f : Addr) (cdv : Value) (A : Around) (outer : List Env) (s : Shared) (H : Hp) (vs : List V) (Q : VK) (E : XK), Room k (A.deeper (envOfC qual (defScope st) s.heap.objs.size f cdv)) → sp vs H Q E →
      ∃ t, PSs (cxOf (L2.CX P w) P w K mg base N qual (defScope st) f cdv A outer s H E) (defBody st) t ∧ t { nx := fun _ H' => Q .non H', rt := Q } (start N vs) H) : Ca P w K mg base x (k + 1) ps sp := by
  obtain ⟨f, fd, F, m, b⟩ := D.ex
  exact ⟨f, fd, F.okX S len fun cdv A outer s H vs Q E hr h => hbody qual f cdv A outer s H vs Q E hr h, m, F.kp, b⟩
end
section
variable {X : Cx}
/-- len of a list or tuple -/
def rLenT : List V → Hp → VK → Prop := fun vs H Q => ∃ (l : Addr) (ws : List V) (n : Nat), vs = [.ref l] ∧ (H l = some (.lst ws) ∨ H l = some (.tup ws)) ∧ ws.length = n ∧ Q (.int n) H
theorem call_lenT : CallR X (.builtin "len") rLenT := by
  intro pins s σ H vs us Q I r h
  obtain ⟨l, ws, n, e, hl, rfl, k⟩ := h
  refine call_len_seq pins s σ H vs us Q I r ⟨l, ws, e, ?_, k⟩
  rcases hl with hl | hl
  · exact .inl (SqL.of hl)
  · exact .inr (SqT.of hl)
end

section
variable {Z : Ent} {F F' H H' : Hp} {cs : List (Addr × HO)} {p a : Addr} {o o' : HO}
theorem Ow.putE (O : Ow Z F cs H) (h : H p = none) (o : HO) : ∃ F', Ow Z F' cs (upd H p o) ∧ Same F F' ∧ F' p = some o := ⟨_, O.put h, O.putS h, upd_same⟩
theorem Ow.was (O : Ow Z F cs H) (h : H p = none) : Z.H p = none := by
  cases q : Z.H p with
  | none => rfl
  | some u => exact absurd h (O.g.t p (by rw [q]; simp))
theorem Ow.frzE (O : Ow Z F cs H) (i : Nat) (e : cs[i]? = some (a, o)) (hz : Z.H a = none) : ∃ F', Ow Z F' (cs.eraseIdx i) H ∧ Same F F' ∧ F' a = some o := ⟨_, O.frz i e hz, O.frzS i e, upd_same⟩
/-- a cell that a call made -/
theorem Ow.got (O : Ow Z F cs H) (O' : Ow Z F' cs' H') (hk : cs'.map (·.1) = cs.map (·.1)) (hn : H p = none) (hf : F' p = none) (h : H' p = some o) (ht : noTup o = true := by rfl) : Ow Z F' ((p, o) :: cs') H' :=
  O'.add O (fun c hc => by rw [← hk]; exact List.mem_map.mpr ⟨c, hc, rfl⟩) hn hf h ht
end
theorem rangeL_get0 {n : Int} {i : Nat} (h : i < n.toNat) : (rangeL 0 n).drop i = (0 + (i : Int)) :: (rangeL 0 n).drop (i + 1) := rangeL_get (by simpa using h)
theorem rangeL_end0 {n : Int} : (rangeL 0 n).drop n.toNat = [] := by
  have := rangeL_end (lo := 0) (hi := n)
  simpa using this
theorem iteD {c A B : Prop} [Decidable c] (h1 : c → A) (h2 : ¬ c → B) : if decide c = true then A else B := by
  by_cases h : c
  · rw [decide_eq_true h, if_pos rfl]; exact h1 h
  · rw [decide_eq_false h, if_neg Bool.false_ne_true]; exact h2 h
theorem iteN {c A B : Prop} [Decidable c] (h1 : c → B) (h2 : ¬ c → A) : if (!decide c) = true then A else B := by
  by_cases h : c
  · rw [decide_eq_true h]; exact h1 h
  · rw [decide_eq_false h]; exact h2 h
theorem iteB {b : Bool} {A B : Prop} (h1 : b = true → A) (h2 : ¬ b = true → B) : if b = true then A else B := by
  cases b with
  | true => exact h1 rfl
  | false => exact h2 Bool.false_ne_true
theorem iteBN {b : Bool} {A B : Prop} (h1 : b = true → B) (h2 : ¬ b = true → A) : if (!b) = true then A else B := by
  cases b with
  | true => exact h1 rfl
  | false => exact h2 Bool.false_ne_true
theorem iteNT {A B : Prop} (h : B) : if (!true) = true then A else B := h
theorem iteNF {A B : Prop} (h : A) : if (!false) = true then A else B := h
theorem wp_if {a : Type} {Q : a → Prop} {E : String → Prop} {c : Prop} [Decidable c] {x y : M a} (h : wp (if c then x else y) Q E) (hc : c) : wp x Q E := by
  rw [if_pos hc] at h
  exact h
theorem wp_el {a : Type} {Q : a → Prop} {E : String → Prop} {c : Prop} [Decidable c] {x y : M a} (h : wp (if c then x else y) Q E) (hc : ¬ c) : wp y Q E := by
  rw [if_neg hc] at h
  exact h

theorem hu128_of {A : Around} {k : Nat} (hr : Room k A) : A.units + 128 < cLine := by have := hr.un; omega
def cutL {a : Type} (xs : List a) (lo hi : Option Int) : List a := (xs.drop (HT.sIx xs.length 0 lo)).take (HT.sIx xs.length xs.length hi - HT.sIx xs.length 0 lo)
theorem RL.cutL {a : Type} [Py a] {H : Hp} {vs : List V} {xs : List a} (h : RL H vs xs) (lo hi : Option Int) : RL H (cutV vs lo hi) (PG.cutL xs lo hi) := h.cut lo hi
theorem RL.last {a : Type} [Py a] {H : Hp} {vs : List V} {xs : List a} {y : a} (h : RL H vs xs) (e : xs[xs.length - 1]? = some y) : ∃ w, vs[vs.length - 1]? = some w ∧ R H w y := by
  obtain ⟨w, e1, h1⟩ := h.get e
  exact ⟨w, by rw [h.len]; exact e1, h1⟩

theorem okR.rg1 {n : Int} (h : okR n) : RgOk 0 n := by
  obtain ⟨a, b⟩ := h
  exact ⟨by omega, by omega, by omega, by omega, by omega⟩
theorem rgV_eq (a b : Int) : rgV a b = (rangeL a b).map V.int := by
  unfold rgV rangeL
  rw [List.map_map]
  rfl
theorem RL.rg {H : Hp} {a b : Int} : RL H (rgV a b) (rangeL a b) := by
  rw [rgV_eq]
  exact RL.of_ints

theorem comp_len {b : Type} {w vs : List V} {xs : List b} {i : Nat} {x : V} (la : w.length ≤ i) (hi : vs[i]? = some x) (hl : vs.length = xs.length) (c : xs.length < 16777216) : w.length < sizeLine := by
  have := (List.getElem?_eq_some_iff.mp hi).1
  exact lt_line (by omega)
theorem rangeL_length (lo hi : Int) : (rangeL lo hi).length = (hi - lo).toNat := by
  unfold rangeL
  simp
theorem comp_lenR {w : List V} {lo hi : Int} {i n : Nat} (la : w.length ≤ i) (h : i < n) (e : (hi - lo).toNat = n) (c : (rangeL lo hi).length < 16777216) : w.length < sizeLine := by
  rw [rangeL_length] at c
  exact lt_line (by omega)
theorem tYes_ {σ : L2.St} {H : Hp} {Q : Bool → Hp → Prop} (h : Q true H) : tYes σ H Q := h

/-! lists of own lists of ints -/
abbrev LC := Addr × List Int
def lcell (c : LC) : Addr × HO := (c.1, .lst (c.2.map V.int))
theorem Ow.perm {Z : Ent} {F H : Hp} {cs cs' : List (Addr × HO)} (O : Ow Z F cs H) (h : cs.Perm cs') : Ow Z F cs' H where
  g := O.g
  cf := fun c hc => O.cf c (h.mem_iff.mpr hc)
  ch := fun c hc => O.ch c (h.mem_iff.mpr hc)
  nd := (h.map _).nodup_iff.mp O.nd
  ca := fun c hc => O.ca c (h.mem_iff.mpr hc)
  nt := fun c hc => O.nt c (h.mem_iff.mpr hc)
theorem Ow.sub {Z : Ent} {F H : Hp} {cs cs' : List (Addr × HO)} (O : Ow Z F cs H) (h : cs'.Sublist cs) : Ow Z F cs' H where
  g := O.g
  cf := fun c hc => O.cf c (h.subset hc)
  ch := fun c hc => O.ch c (h.subset hc)
  nd := O.nd.sublist (h.map _)
  ca := fun c hc => O.ca c (h.subset hc)
  nt := fun c hc => O.nt c (h.subset hc)
/-- a new list of new lists -/
structure OwnLL (H F' H' : Hp) (p : Addr) (ps : List LC) : Prop where
  pn : H p = none
  pf : F' p = none
  ph : H' p = some (.lst (ps.map fun c => V.ref c.1))
  qn : ∀ c ∈ ps, H c.1 = none
  qf : ∀ c ∈ ps, F' c.1 = none
  qh : ∀ c ∈ ps, H' c.1 = some (.lst (c.2.map V.int))
  nd : (p :: ps.map (·.1)).Nodup
theorem OwnLL.frz {F H F' H' : Hp} {p : Addr} {ps : List LC} {as : List Addr} (G : Gr as F H F' H') (L : OwnLL H F' H' p ps) :
    ∃ F2, Gr as F H F2 H' ∧ F2 p = none ∧ RL F2 (ps.map fun c => V.ref c.1) (ps.map (·.2)) := by
  refine ⟨fun b => if b ∈ ps.map (·.1) then H' b else F' b, ⟨fun b o e => ?_, fun b o e => ?_, G.k, G.t, fun b e => ?_, G.u⟩, ?_, ?_⟩
  · have h1 := G.f b o e
    by_cases hb : b ∈ ps.map (·.1)
    · obtain ⟨c, hc, rfl⟩ := List.mem_map.mp hb
      rw [L.qf c hc] at h1
      cases h1
    · show (if b ∈ ps.map (·.1) then H' b else F' b) = some o
      rw [if_neg hb]
      exact h1
  · have e : (if b ∈ ps.map (·.1) then H' b else F' b) = some o := e
    by_cases hb : b ∈ ps.map (·.1)
    · rw [if_pos hb] at e
      exact e
    · rw [if_neg hb] at e
      exact G.s b o e
  · show (if b ∈ ps.map (·.1) then H' b else F' b) = F b ∨ _
    have hb : b ∉ ps.map (·.1) := fun hb => by
      obtain ⟨c, hc, rfl⟩ := List.mem_map.mp hb
      exact e (L.qn c hc)
    rw [if_neg hb]
    exact G.n b e
  · show (if p ∈ ps.map (·.1) then H' p else F' p) = none
    rw [if_neg (List.nodup_cons.mp L.nd).1]
    exact L.pf
  · have all : ∀ l : List LC, (∀ c ∈ l, c ∈ ps) → RL (fun b => if b ∈ ps.map (·.1) then H' b else F' b) (l.map fun c => V.ref c.1) (l.map (·.2)) := by
      intro l
      induction l with
      | nil => intro _; exact RL.nil
      | cons c l ih =>
        intro h
        have hc := h c List.mem_cons_self
        refine RL.cons (R.lst (vs := c.2.map V.int) ?_ RL.of_ints) (ih fun d hd => h d (List.mem_cons_of_mem _ hd))
        show (if c.1 ∈ ps.map (·.1) then H' c.1 else F' c.1) = _
        rw [if_pos (List.mem_map.mpr ⟨c, hc, rfl⟩)]
        exact L.qh c hc
    exact all ps fun _ h => h
theorem FnOk.impC {P : Program} {w : World} {K : PySem.W.Frag} {mg : Str → Option Value} {base : Heap} {x : Str} {k : Nat} {ps : List Str} {sp sp' : Sp} (F : Ca P w K mg base x k ps sp) (h : ∀ vs H Q E, sp' vs H Q E → sp vs H Q E) : Ca P w K mg base x k ps sp' := by
  obtain ⟨f, fd, G, m, kp, b⟩ := F.ex
  exact ⟨f, fd, G.imp h, m, kp, b⟩
theorem wp_mono {a : Type} {Q Q' : a → Prop} {E : String → Prop} {m : M a} (h : wp m Q E) (f : ∀ r, Q r → Q' r) : wp m Q' E := wp_tail h (fun r _ q => f r q) fun _ e => e
/-- a scalar call that reads a cell: the cell is as it was, and nothing of the call is kept -/
theorem Ow.borrow {Z : Ent} {F F1 F' H H' : Hp} {cs : List (Addr × HO)} (O : Ow Z F cs H) (s1 : Same F F1) (g : Gr [] F1 H F' H') : Ow Z F cs H' where
  g := ⟨O.g.f, (s1.trans g.f).trans g.s, fun b o hb e => g.k b o (fun h => nomatch h) (O.g.k b o hb e), fun b e => g.t b (O.g.t b e), O.g.n, fun b xs e => by
    rcases g.u b xs e with z | z
    · refine .inl ?_
      cases q : Z.H b with
      | none => rfl
      | some u => exact absurd z (O.g.t b (by rw [q]; simp))
    · exact O.g.u b xs z⟩
  cf := O.cf
  ch := fun c hc => g.k _ _ (fun h => nomatch h) (O.ch c hc)
  nd := O.nd
  ca := O.ca
  nt := O.nt
theorem Ow.lend {Z : Ent} {F H : Hp} {cs : List (Addr × HO)} {a : Addr} {o : HO} (O : Ow Z F cs H) (i : Nat) (e : cs[i]? = some (a, o)) : ∃ F1, Same F F1 ∧ Pre F1 [] H ∧ F1 a = some o := by
  have m := List.mem_of_getElem? e
  refine ⟨upd F a o, Same.new (O.cf _ m), ⟨fun b u q => ?_, (fun _ h => nomatch h), (fun _ h => nomatch h), List.nodup_nil, fun _ h => nomatch h⟩, upd_same⟩
  by_cases hb : b = a
  · subst hb; rw [upd_same] at q; rw [← q]; exact O.ch _ m
  · rw [upd_ne hb] at q; exact O.s b u q

abbrev lrefs (ps : List LC) : List V := ps.map fun (c : LC) => V.ref c.1

def ret {a : Type} (x : a) : M a := .ok x
theorem wp_ret {a b : Type} {Q : a → Prop} {E : String → Prop} {x : b} {k : b → M a} (h : wp (ret x >>= k) Q E) : ∃ y, y = x ∧ wp (k y) Q E := ⟨x, rfl, h⟩

/-- tuples that stand may be read -/
theorem Ow.tups {Z : Ent} {F H : Hp} {cs : List (Addr × HO)} (O : Ow Z F cs H) (bs : List Addr) (h : ∀ b ∈ bs, ∃ xs, H b = some (.tup xs)) : ∃ F', Ow Z F' cs H ∧ Same F F' ∧ ∀ b ∈ bs, F' b = H b := by
  refine ⟨fun b => if b ∈ bs then H b else F b, ⟨⟨fun b o e => ?_, fun b o e => ?_, O.g.k, O.g.t, fun b e => ?_, O.g.u⟩, fun c hc => ?_, O.ch, O.nd, O.ca, O.nt⟩, fun b o e => ?_, fun b hb => if_pos hb⟩
  · have h1 := O.g.f b o e
    show (if b ∈ bs then H b else F b) = some o
    by_cases hb : b ∈ bs
    · rw [if_pos hb]; exact O.s b o h1
    · rw [if_neg hb]; exact h1
  · have e : (if b ∈ bs then H b else F b) = some o := e
    by_cases hb : b ∈ bs
    · rw [if_pos hb] at e; exact e
    · rw [if_neg hb] at e; exact O.s b o e
  · show (if b ∈ bs then H b else F b) = Z.F b ∨ _
    by_cases hb : b ∈ bs
    · obtain ⟨xs, hx⟩ := h b hb
      rcases O.g.u b xs hx with z | z
      · exact absurd z e
      · exact .inr ⟨xs, z⟩
    · rw [if_neg hb]; exact O.g.n b e
  · show (if c.1 ∈ bs then H c.1 else F c.1) = none
    by_cases hb : c.1 ∈ bs
    · obtain ⟨xs, hx⟩ := h c.1 hb
      have hn := O.nt c hc
      rw [O.ch c hc] at hx
      rw [Option.some.inj hx] at hn
      cases hn
    · rw [if_neg hb]; exact O.cf c hc
  · show (if b ∈ bs then H b else F b) = some o
    by_cases hb : b ∈ bs
    · rw [if_pos hb]; exact O.s b o e
    · rw [if_neg hb]; exact e
end PG

set_option Elab.async false
set_option linter.all false
set_option maxRecDepth 100000
set_option maxHeartbeats 4000000
namespace PG
open PySem PySem.Spec PyProof.Rows L2
open PySem.W (T3 T4 Datum DatumOrd Holds HoldAll EachIs)

theorem u1_of {n : Nat} (h : n + 64 < cLine) : n + 1 < cLine := Nat.lt_of_le_of_lt (Nat.add_le_add_left (by decide) _) h
/-! ### dicts: what stands for a key -/
class DK (κ : Type) (K' : outParam Type) where
  kk : κ → K'
  inj : ∀ a b, kk a = kk b → a = b
instance : DK Int Key := ⟨Sum.inl, fun _ _ h => Sum.inl.inj h⟩
instance : DK Str Key := ⟨Sum.inr, fun _ _ h => Sum.inr.inj h⟩
instance : DK (Int × Int) (List Key) := ⟨fun p => [.inl p.1, .inl p.2], fun a b h => by
  injection h with h1 h2
  injection h2 with h2 _
  exact Prod.ext (Sum.inl.inj h1) (Sum.inl.inj h2)⟩
section
variable {κ K' β : Type} [DK κ K'] [Py β]
inductive RD (F : Hp) : List (K' × V) → List (κ × β) → Prop
  | nil : RD F [] []
  | cons {k : κ} {v : V} {y : β} {kvs : List (K' × V)} {xs : List (κ × β)} : R F v y → RD F kvs xs → RD F ((DK.kk k, v) :: kvs) ((k, y) :: xs)
variable {F F' : Hp}
theorem RD.mono {kvs : List (K' × V)} {xs : List (κ × β)} (h : RD F kvs xs) (s : Same F F') : RD F' kvs xs := by
  induction h with
  | nil => exact .nil
  | cons h _ ih => exact .cons (h.mono s) ih
theorem RD.len {kvs : List (K' × V)} {xs : List (κ × β)} (h : RD F kvs xs) : kvs.length = xs.length := by
  induction h with
  | nil => rfl
  | cons h _ ih => rw [List.length_cons, List.length_cons, ih]
theorem RD.keys {kvs : List (K' × V)} {xs : List (κ × β)} (h : RD F kvs xs) : kvs.map (·.1) = (xs.map (·.1)).map DK.kk := by
  induction h with
  | nil => rfl
  | cons h _ ih => rw [List.map_cons, List.map_cons, List.map_cons, ih]
end
section
variable {κ K' β : Type} [DK κ K'] [DecidableEq κ] [DecidableEq K'] [Py β] {F F' : Hp}
def dGet (xs : List (κ × β)) (k : κ) : Option β := (xs.find? fun p => decide (p.1 = k)).map (·.2)
def dPut (xs : List (κ × β)) (k : κ) (y : β) : List (κ × β) :=
  if (xs.any fun p => decide (p.1 = k)) = true then xs.map (fun p => if p.1 = k then (p.1, y) else p) else xs ++ [(k, y)]
def dHas (xs : List (κ × β)) (k : κ) : Bool := (dGet xs k).isSome
theorem kk_dec {a b : κ} : decide ((DK.kk a : K') = DK.kk b) = decide (a = b) := by
  by_cases h : a = b
  · subst h; simp
  · rw [decide_eq_false h, decide_eq_false fun z => h (DK.inj a b z)]
theorem dGet_pos {p : κ × β} {r : List (κ × β)} {k : κ} (e : p.1 = k) : dGet (p :: r) k = some p.2 := by simp [dGet, List.find?_cons, e]
theorem dGet_neg {p : κ × β} {r : List (κ × β)} {k : κ} (e : ¬ p.1 = k) : dGet (p :: r) k = dGet r k := by simp [dGet, List.find?_cons, e]
theorem RD.get {kvs : List (K' × V)} {xs : List (κ × β)} (h : RD F kvs xs) (k : κ) :
    (dGet xs k = none ∧ valV kvs (DK.kk k) = none) ∨ ∃ y v, dGet xs k = some y ∧ valV kvs (DK.kk k) = some v ∧ R F v y := by
  induction h with
  | nil => exact .inl ⟨rfl, rfl⟩
  | @cons j v y kvs xs h hs ih =>
    by_cases e : j = k
    · exact .inr ⟨y, v, dGet_pos e, valV_pos (by rw [e]), h⟩
    · rw [dGet_neg (p := (j, y)) e, valV_neg (fun z => e (DK.inj j k z))]
      exact ih
theorem RD.some {kvs : List (K' × V)} {xs : List (κ × β)} (h : RD F kvs xs) {k : κ} {y : β} (e : dGet xs k = some y) : ∃ v, valV kvs (DK.kk k) = some v ∧ R F v y := by
  rcases h.get k with ⟨a, _⟩ | ⟨y', v, a, b, c⟩
  · rw [e] at a; cases a
  · rw [e] at a; cases a; exact ⟨v, b, c⟩
theorem RD.is {kvs : List (K' × V)} {xs : List (κ × β)} (h : RD F kvs xs) (k : κ) : (valV kvs (DK.kk k)).isSome = dHas xs k := by
  unfold dHas
  rcases h.get k with ⟨a, b⟩ | ⟨y', v, a, b, c⟩
  · rw [a, b]; rfl
  · rw [a, b]; rfl
theorem RD.map {kvs : List (K' × V)} {xs : List (κ × β)} (h : RD F kvs xs) (k : κ) {v : V} {y : β} (hv : R F v y) :
    RD F (kvs.map fun kv => if kv.1 = DK.kk k then (kv.1, v) else kv) (xs.map fun p => if p.1 = k then (p.1, y) else p) := by
  induction h with
  | nil => exact .nil
  | @cons j u z kvs xs h hs ih =>
    rw [List.map_cons, List.map_cons]
    by_cases e : j = k
    · rw [if_pos e, if_pos (show (DK.kk j, u).1 = DK.kk k by rw [e])]
      exact .cons hv ih
    · rw [if_neg e, if_neg (show ¬ (DK.kk j, u).1 = DK.kk k from fun z => e (DK.inj j k z))]
      exact .cons h ih
theorem RD.snoc {kvs : List (K' × V)} {xs : List (κ × β)} (h : RD F kvs xs) (k : κ) {v : V} {y : β} (hv : R F v y) : RD F (kvs ++ [(DK.kk k, v)]) (xs ++ [(k, y)]) := by
  induction h with
  | nil => exact .cons hv .nil
  | cons h _ ih => exact .cons h ih
theorem RD.any {kvs : List (K' × V)} {xs : List (κ × β)} (h : RD F kvs xs) (k : κ) : (kvs.any fun kv => decide (kv.1 = DK.kk k)) = (xs.any fun p => decide (p.1 = k)) := by
  induction h with
  | nil => rfl
  | @cons j u z kvs xs h hs ih => rw [List.any_cons, List.any_cons, ih, kk_dec]
theorem RD.put {kvs : List (K' × V)} {xs : List (κ × β)} (h : RD F kvs xs) (k : κ) {v : V} {y : β} (hv : R F v y) : RD F (putK kvs (DK.kk k) v) (dPut xs k y) := by
  unfold putK dPut
  rw [h.any k]
  by_cases e : (xs.any fun p => decide (p.1 = k)) = true
  · rw [if_pos e, if_pos e]; exact h.map k hv
  · rw [if_neg e, if_neg e]; exact h.snoc k hv
def putD (xs : List (κ × β)) (k : κ) (y : β) : M (List (κ × β)) := if xs.length < 16777216 then .ok (dPut xs k y) else bad
theorem wp_putD {a : Type} {Q : a → Prop} {E : String → Prop} {xs : List (κ × β)} {j : κ} {y : β} {k : List (κ × β) → M a} (h : wp (putD xs j y >>= k) Q E) : xs.length < sizeLine ∧ wp (k (dPut xs j y)) Q E := by
  unfold putD at h
  by_cases hl : xs.length < 16777216
  · rw [if_pos hl] at h
    exact ⟨lt_line hl, h⟩
  · rw [if_neg hl] at h
    exact h.elim
end
/-- a dict that is read alone -/
class DO (K' : Type) where
  ho : List (K' × V) → HO
instance : DO Key := ⟨.dK⟩
instance : DO (List Key) := ⟨.dT⟩
section
variable {κ K' β : Type} [DK κ K'] [Py β] [DO K'] {F F' H : Hp} {v : V} {a b : Addr}
def RDv (F : Hp) (v : V) (xs : List (κ × β)) : Prop := ∃ (a : Addr) (kvs : List (K' × V)), v = .ref a ∧ F a = some (DO.ho kvs) ∧ RD F kvs xs
theorem RDv.mono {xs : List (κ × β)} (h : RDv F v xs) (s : Same F F') : RDv F' v xs := by
  obtain ⟨a, kvs, e, h1, h2⟩ := h
  exact ⟨a, kvs, e, s _ _ h1, h2.mono s⟩
theorem RDv.mk {xs : List (κ × β)} {kvs : List (K' × V)} (h : F a = some (DO.ho kvs)) (hr : RD F kvs xs) : RDv F (.ref a) xs := ⟨a, kvs, rfl, h, hr⟩
end
section
variable {β : Type} [Py β] {F H : Hp} {a b : Addr}
theorem dget_T {kvs : List (List Key × V)} {i j : Int} {v : V} (e : H a = some (.dT kvs)) (eb : H b = some (.tup [.int i, .int j])) (hv : valV kvs (DK.kk (i, j)) = some v) : DGet H a (.ref b) (some v) := by
  rw [← hv]
  exact DGet.t (k := [.inl i, .inl j]) e eb
theorem dget_I {kvs : List (Key × V)} {i : Int} {v : V} (e : H a = some (.dK kvs)) (hv : valV kvs (DK.kk i) = some v) : DGet H a (.int i) (some v) := by
  rw [← hv]
  exact DGet.k (k := .inl i) e
theorem dget_S {kvs : List (Key × V)} {i : Str} {v : V} (e : H a = some (.dK kvs)) (hv : valV kvs (DK.kk i) = some v) : DGet H a (.str i) (some v) := by
  rw [← hv]
  exact DGet.k (k := .inr i) e
theorem din_T {kvs : List (List Key × V)} {i j : Int} {xs : List ((Int × Int) × β)} (e : H a = some (.dT kvs)) (eb : H b = some (.tup [.int i, .int j])) (hr : RD F kvs xs) : ∃ o, DGet H a (.ref b) o ∧ o.isSome = dHas xs (i, j) :=
  ⟨_, DGet.t (k := [.inl i, .inl j]) e eb, hr.is (i, j)⟩
theorem din_I {kvs : List (Key × V)} {i : Int} {xs : List (Int × β)} (e : H a = some (.dK kvs)) (hr : RD F kvs xs) : ∃ o, DGet H a (.int i) o ∧ o.isSome = dHas xs i :=
  ⟨_, DGet.k (k := .inl i) e, hr.is i⟩
theorem din_S {kvs : List (Key × V)} {i : Str} {xs : List (Str × β)} (e : H a = some (.dK kvs)) (hr : RD F kvs xs) : ∃ o, DGet H a (.str i) o ∧ o.isSome = dHas xs i :=
  ⟨_, DGet.k (k := .inr i) e, hr.is i⟩
theorem dput_T {kvs : List (List Key × V)} {i j : Int} {v : V} (e : H a = some (.dT kvs)) (eb : H b = some (.tup [.int i, .int j])) (hl : kvs.length < sizeLine) : DPut H a (.ref b) v (upd H a (.dT (putK kvs (DK.kk (i, j)) v))) := DPut.t (k := [.inl i, .inl j]) e eb hl
theorem dput_I {kvs : List (Key × V)} {i : Int} {v : V} (e : H a = some (.dK kvs)) (hl : kvs.length < sizeLine) : DPut H a (.int i) v (upd H a (.dK (putK kvs (DK.kk i) v))) := DPut.k (k := .inl i) e hl
theorem dput_S {kvs : List (Key × V)} {i : Str} {v : V} (e : H a = some (.dK kvs)) (hl : kvs.length < sizeLine) : DPut H a (.str i) v (upd H a (.dK (putK kvs (DK.kk i) v))) := DPut.k (k := .inr i) e hl
end
/-! sorted(d), the keys pairs of whole numbers -/
theorem keys_tups {H : Hp} {kvs : List (List Key × V)} {bs : List Addr} (h : IsKeys H kvs bs) : ∀ b ∈ bs, ∃ xs, H b = some (.tup xs) := by
  unfold IsKeys at h
  induction h with
  | nil => intro b hb; simp at hb
  | cons h t ih =>
    intro c hc
    rcases List.mem_cons.mp hc with rfl | hc
    · exact ⟨_, h⟩
    · exact ih c hc
theorem keys_rl {H : Hp} {kvs : List (List Key × V)} {bs : List Addr} (h : IsKeys H kvs bs) : ∀ {ks : List (Int × Int)}, kvs.map (·.1) = ks.map DK.kk → RL H (bs.map V.ref) ks := by
  unfold IsKeys at h
  induction h with
  | nil =>
    intro ks e
    cases ks with
    | nil => exact RL.nil
    | cons k ks => simp at e
  | cons h t ih =>
    intro ks e
    cases ks with
    | nil => simp at e
    | cons k ks =>
      rw [List.map_cons, List.map_cons] at e
      injection e with e1 e2
      rw [e1] at h
      exact RL.cons (R.t2 h R.int R.int) (ih e2)
theorem keys_in {H F : Hp} {kvs : List (List Key × V)} {bs : List Addr} {ks : List (Int × Int)} (h : IsKeys H kvs bs) (hf : ∀ b ∈ bs, F b = H b) (e : kvs.map (·.1) = ks.map DK.kk) : RL F (bs.map V.ref) ks := by
  refine keys_rl ?_ e
  unfold IsKeys at h ⊢
  clear e
  induction h with
  | nil => exact .nil
  | @cons x b xs bs h t ih =>
    refine .cons ?_ (ih fun c hc => hf c (List.mem_cons_of_mem _ hc))
    rw [hf b List.mem_cons_self]
    exact h
section
variable {X : Cx}
theorem cr_sortedDT (hcalm : X.calm = true) (hu : X.A.units + 128 < cLine) : CallR X (.builtin "sorted") (fun xs H Q => ∃ (d : Addr) (kvs : List (List Key × V)) (ks : List (Int × Int)), xs = [.ref d] ∧ H d = some (.dT kvs) ∧ kvs.map (·.1) = ks.map DK.kk ∧
    ∀ (bs : List Addr) (p : Addr), IsKeys H kvs bs → H p = none → Q (.ref p) (upd H p (.lst (sortV (bs.map V.ref) ks)))) := by
  intro pins s σ H xs us Q I r q
  obtain ⟨d, kvs, ks', ex, hd, hks, q⟩ := q
  subst ex
  obtain ⟨u, eu, rx⟩ := vals1 r
  subst eu
  cases rx
  obtain ⟨z, hs, ks, pr, o, es, ep, ho, hx, hdt, he, hn⟩ := (show ObjOk X.prog X.w H s.heap d (.dT kvs) from I.hok d _ hd)
  have l1 : es.size = ks.length := size_of_entries he
  have l2 : kvs.length = ks.length := Paired.length pr
  refine Calls.call_function_entry PyProof.Rows.kind_sorted PyProof.Rows.plain_sorted PyProof.Rows.entry_sorted (PyProof.Rows.args_sorted1 _) ?_
  unfold Builtin.«sorted»
  refine wpAny_bind (m := checkCount "sorted" 1 1 _) (wpAny_pure ?_)
  refine wpAny_bind (PySem.W.kdu_collect (A := X.A.in1) (kdl_raw hs hx hdt) (I.ok.hd hcalm) ho (by omega) fun h' tk acc kp it => ?_)
  have ea : acc.toList = ks.map fun x => Value.ref x.2.1 := by
    have hl : acc.toList.length = ks.length := by rw [Array.length_toList, it.1]; exact l1
    apply List.ext_getElem?
    intro j
    rw [List.getElem?_map]
    cases hj : acc.toList[j]? with
    | none =>
      have h1 := List.getElem?_eq_none_iff.mp hj
      rw [List.getElem?_eq_none (by omega)]
      all_goals rfl
    | some v =>
      obtain ⟨en, hen, hv⟩ := it.2 j v (by rw [← Array.getElem?_toList]; exact hj)
      have qe := entry_at he j
      rw [hen] at qe
      cases hb : ks[j]? with
      | none =>
        rw [hb] at qe
        exact nomatch (show some en = none from qe)
      | some b =>
        rw [hb] at qe
        have e2 : en = entryOfKey (tupleKind (mixKind X.prog X.w)) b := Option.some.inj qe
        rw [hv, e2]
        all_goals rfl
  have eb : acc.toList = (ks.map fun (x : List Key × Addr × Value) => x.2.1).map Value.ref := by rw [ea, List.map_map]; all_goals rfl
  have rv : Vals ((ks.map fun (x : List Key × Addr × Value) => x.2.1).map V.ref) acc.toList := by rw [eb]; exact vals_refs _
  have hik : IsKeys H kvs (ks.map fun (x : List Key × Addr × Value) => x.2.1) := isKeys_of pr
  have hrl := keys_rl hik hks
  have hlen : ((ks.map fun (x : List Key × Addr × Value) => x.2.1).map V.ref).length = ks'.length := hrl.len
  have hal : acc.toList.length = ks.length := by rw [ea, List.length_map]
  have I1 : Inv X pins σ H { s with heap := h', toks := tk } := I.kept kp
  have hE := each_pairs hrl rv
  have hR : EachIs (fun u (p : V × (Int × Int)) => ∃ as, PySem.Reads h' u (Datum.toD p.2) as) acc.toList (((ks.map fun (x : List Key × Addr × Value) => x.2.1).map V.ref).zip ks') := each_imp (fun u p hp => hp.2.holds I1 hp.1) hE
  have hoL : (h'.push (seqObj "list" acc.toList.toArray 0)).get? h'.objs.size = some (seqObj "list" acc.toList.toArray 0) := Heap.get?_push_size _ rfl
  have hz : acc.toList.length ≤ sizeLine := by rw [hal]; omega
  refine wpAny_bind (wpAny_newList ?_ hz)
  show wpAny _ _ _ _ _ { s with heap := h'.push (seqObj "list" acc.toList.toArray 0), toks := tk }
  have er' : EachIs (fun v (p : V × (Int × Int)) => ∃ as, PySem.Reads (PySem.W.sortingHeap (h'.push (seqObj "list" acc.toList.toArray 0)) h'.objs.size acc.toList) v (Datum.toD p.2) as) acc.toList (((ks.map fun (x : List Key × Addr × Value) => x.2.1).map V.ref).zip ks') :=
    hR.mono fun _ _ ⟨as, r⟩ => ⟨as, PyProof.Rows.Reads.keeps (fun b o e => PySem.W.sortingHeap_old (Nat.ne_of_lt (Heap.lt_size e)) (Heap.get?_push_of_some _ e)) r⟩
  have hal2 : PySem.W.AllAlike ((((ks.map fun (x : List Key × Addr × Value) => x.2.1).map V.ref).zip ks').map fun p => Datum.toD p.2) := PySem.W.AllAlike.of fun p q => DatumOrd.alike p.2 q.2
  refine wpAny_bind (wpAny_holding (wpAny_call_entry PyProof.Rows.slot_list_sort ⟨_, hoL, rfl⟩ PyProof.Rows.entry_list_sort
    (PySem.W.list_sort_vals (κ := PySem.W.dataKind (PySem.W.sortingHeap (h'.push (seqObj "list" acc.toList.toArray 0)) h'.objs.size acc.toList) ((((ks.map fun (x : List Key × Addr × Value) => x.2.1).map V.ref).zip ks').map fun p => Datum.toD p.2)) (s := { s with heap := h'.push (seqObj "list" acc.toList.toArray 0), toks := tk }) hoL
      (PySem.W.SortsAt.data (s := { s with heap := PySem.W.sortingHeap (h'.push (seqObj "list" acc.toList.toArray 0)) h'.objs.size acc.toList, toks := tk }) (PySem.W.each_map (R := fun v d => ∃ as, PySem.Reads (PySem.W.sortingHeap (h'.push (seqObj "list" acc.toList.toArray 0)) h'.objs.size acc.toList) v d as) (fun (p : V × (Int × Int)) => Datum.toD p.2) er') hal2 ?_ ?_) hz ⟨_, rfl, ?_⟩)
    (PyProof.Rows.args_list_sort _)))
  · exact PySem.W.Sortable.tuples fun p => ⟨_, _, rfl⟩
  · intro dd hdd
    obtain ⟨p, _, rfl⟩ := List.mem_map.mp hdd
    have hdp : Datum.depth (Int × Int) ≤ 100 := by decide
    have := Datum.depth_le p.2
    have hA : X.A.in1.in1.units ≤ X.A.units + 2 := by simp [Around.in1]
    omega
  · have he2 := PySem.W.sortVals_data (R := fun (u : Value) (p : V × (Int × Int)) => RelV p.1 u ∧ R H p.1 p.2) (enc := fun p => Datum.toD p.2) false hE er' hal2
    rw [dataLe_T (fun p : V × (Int × Int) => p.2)] at he2
    obtain ⟨q1, q2⟩ := pairs_vals he2
    obtain ⟨e', he'⟩ := PyProof.Rows.sortedHeap_at (vs := acc.toList) (out := (PySem.W.sortVals (PySem.W.dataKind (PySem.W.sortingHeap (h'.push (seqObj "list" acc.toList.toArray 0)) h'.objs.size acc.toList) ((((ks.map fun (x : List Key × Addr × Value) => x.2.1).map V.ref).zip ks').map fun p => Datum.toD p.2)) false acc.toList acc.toList).toArray) hoL
    refine wpAny_pure ⟨_, rfl, .ref h'.objs.size, upd H h'.objs.size (.lst (sortV ((ks.map fun (x : List Key × Addr × Value) => x.2.1).map V.ref) ks')), I1.laid (t' := tk) (fun b u e => ?_) (Nat.le_refl _)
      (show ObjOk X.prog X.w _ _ _ (.lst _) from ⟨?_, _, e', q1, he'⟩), rfl, q _ _ hik (I1.hok.fresh (Nat.le_refl _))⟩
    · have hb : b < h'.objs.size := Heap.lt_size e
      rw [PyProof.Rows.sortedHeap_old (Nat.ne_of_lt hb) (by rw [size_push']; exact Nat.lt_succ_of_lt hb)]
      exact Heap.get?_push_of_some _ e
    · unfold sortV
      rw [List.length_map, List.length_mergeSort, List.length_zip, hlen, Nat.min_self, ← hlen, List.length_map, List.length_map]
      omega
end
end PG

set_option Elab.async false
set_option linter.all false
set_option maxRecDepth 100000
set_option maxHeartbeats 4000000
namespace PG
open PySem PySem.Spec PyProof.Rows L2
open PySem.W (T3 T4 Datum DatumOrd Holds HoldAll EachIs)

/-! ### a list of two things of two kinds -/
structure HL2 (a b : Type) where
  a : a
  b : b
  deriving DecidableEq
theorem HL2.same {a b : Type} : ∀ {p q : HL2 a b}, p.a = q.a → p.b = q.b → p = q
  | ⟨_, _⟩, ⟨_, _⟩, rfl, rfl => rfl
section
variable {α β : Type} [DecidableEq α] [Datum α] [DecidableEq β] [Datum β]
instance : Datum (HL2 α β) where
  toD p := .list [Datum.toD p.a, Datum.toD p.b]
  plain p := by simp only [PyData.plain, PyData.plainAll, Datum.plain, Bool.and_self]
  eqv p q := by
    simp only [PyData.eqv, PyData.eqvAll]
    rw [Datum.eqv, Datum.eqv, Bool.and_true, ← Bool.decide_and]
    exact decide_eq_decide.mpr ⟨fun e => HL2.same e.1 e.2, fun e => by rw [e]; exact ⟨rfl, rfl⟩⟩
  depth := max (Datum.depth α) (Datum.depth β) + 1
  depth_le p := by
    simp only [PyData.depth, PyData.depthAll]
    have h0 := Datum.depth_le p.a
    have h1 := Datum.depth_le p.b
    omega
end
instance {a b : Type} [Py a] [Py b] : Py (HL2 a b) := ⟨fun p => .list [Py.toD p.a, Py.toD p.b]⟩
section
variable {a b : Type} [Py a] [DecidableEq a] [Datum a] [IsD a] [Py b] [DecidableEq b] [Datum b] [IsD b]
instance : IsD (HL2 a b) := ⟨fun p => by show PyData.list [_, _] = PyData.list [_, _]; rw [IsD.eq, IsD.eq]⟩
end
theorem R.hl2 {a b : Type} [Py a] [Py b] {H : Hp} {p : Addr} {x : HL2 a b} {v1 v2 : V} (ha : H p = some (.lst [v1, v2])) (h1 : R H v1 x.a) (h2 : R H v2 x.b) : R H (.ref p) x := Rep.lst ha (.cons h1 (.cons h2 .nil))
/-! ### data without lists within -/
class NoL (a : Type) [Py a] : Prop where
  mv : ∀ (F F' : Hp), (∀ b xs, F b = some (.tup xs) → F' b = some (.tup xs)) → ∀ (v : V) (x : a), R F v x → R F' v x
instance : NoL Int := ⟨fun _ _ _ _ _ h => by rw [R.int_ h]; exact R.int⟩
instance : NoL Bool := ⟨fun _ _ _ _ _ h => by rw [R.bl_ h]; exact R.bl⟩
instance : NoL Str := ⟨fun _ _ _ _ _ h => by rw [R.str_ h]; exact R.str⟩
instance {a b : Type} [Py a] [Py b] [NoL a] [NoL b] : NoL (a × b) := ⟨fun _ _ t _ _ h => by
  obtain ⟨p, v1, v2, rfl, hp, h1, h2⟩ := R.t2_ h
  exact R.t2 (t _ _ hp) (NoL.mv _ _ t _ _ h1) (NoL.mv _ _ t _ _ h2)⟩
instance {a b c : Type} [Py a] [Py b] [Py c] [NoL a] [NoL b] [NoL c] : NoL (T3 a b c) := ⟨fun _ _ t _ _ h => by
  obtain ⟨p, v1, v2, v3, rfl, hp, h1, h2, h3⟩ := R.t3_ h
  exact R.t3 (t _ _ hp) (NoL.mv _ _ t _ _ h1) (NoL.mv _ _ t _ _ h2) (NoL.mv _ _ t _ _ h3)⟩
theorem RL.mv {a : Type} [Py a] [NoL a] {F F' : Hp} (t : ∀ b xs, F b = some (.tup xs) → F' b = some (.tup xs)) : ∀ {vs : List V} {xs : List a}, RL F vs xs → RL F' vs xs
  | _, [], h => by rw [RL.nil_ h]; exact RL.nil
  | _, x :: xs, h => by
    obtain ⟨w, ws, rfl, h1, h2⟩ := RL.cons_ h
    exact RL.cons (NoL.mv _ _ t _ _ h1) (RL.mv t h2)
/-! ### cells lent to a call -/
open Classical in
noncomputable def lendF (as : List Addr) (F H : Hp) : Hp := fun b => if b ∈ as then H b else F b
open Classical in
noncomputable def backF (as : List Addr) (F : Hp) : Hp := fun b => if b ∈ as then none else F b
section
variable {Z : Ent} {F F' H H' : Hp} {cs : List (Addr × HO)} {p a q : Addr} {o o' : HO} {as : List Addr}
theorem inA_nil : ∀ b ∈ ([] : List Addr), ∃ o, (b, o) ∈ cs := fun _ h => nomatch h
theorem inA_cons (i : Nat) (e : cs[i]? = some (a, o)) (h : ∀ b ∈ as, ∃ o, (b, o) ∈ cs) : ∀ b ∈ a :: as, ∃ o, (b, o) ∈ cs := fun b hb => by
  rcases List.mem_cons.mp hb with rfl | hb
  · exact ⟨o, List.mem_of_getElem? e⟩
  · exact h b hb
theorem lendF_at (h : a ∈ as) : lendF as F H a = H a := if_pos h
theorem Ow.lendS (O : Ow Z F cs H) (hin : ∀ b ∈ as, ∃ o, (b, o) ∈ cs) : Same F (lendF as F H) := fun b u e => by
  by_cases hb : b ∈ as
  · obtain ⟨o, hc⟩ := hin b hb
    have := O.cf _ hc
    have e' : F b = none := this
    rw [e'] at e; cases e
  · show (if b ∈ as then H b else F b) = _
    rw [if_neg hb]; exact e
theorem Ow.lendP (O : Ow Z F cs H) (hin : ∀ b ∈ as, ∃ o, (b, o) ∈ cs) : Pre (lendF as F H) [] H := by
  refine ⟨fun b u e => ?_, (fun _ h => nomatch h), (fun _ h => nomatch h), List.nodup_nil, fun _ h => nomatch h⟩
  have e : (if b ∈ as then H b else F b) = some u := e
  by_cases hb : b ∈ as
  · rw [if_pos hb] at e; exact e
  · rw [if_neg hb] at e; exact O.s b u e
theorem Ow.unlend (O : Ow Z F cs H) (hin : ∀ b ∈ as, ∃ o, (b, o) ∈ cs) (g : Gr [] (lendF as F H) H F' H') :
    Ow Z (backF as F') cs H' ∧ Same F (backF as F') ∧ (∀ b xs, F' b = some (.tup xs) → backF as F' b = some (.tup xs)) ∧ ∀ b, F' b = none → backF as F' b = none := by
  have inF : ∀ b, b ∉ as → ∀ u, F b = some u → F' b = some u := fun b hb u e => g.f b u (by
    show (if b ∈ as then H b else F b) = _
    rw [if_neg hb]; exact e)
  have nF : ∀ b ∈ as, F b = none := fun b hb => by obtain ⟨o, hc⟩ := hin b hb; exact O.cf _ hc
  have sF : Same F (backF as F') := fun b u e => by
    show (if b ∈ as then none else F' b) = _
    by_cases hb : b ∈ as
    · rw [nF b hb] at e; cases e
    · rw [if_neg hb]; exact inF b hb u e
  refine ⟨⟨⟨O.g.f.trans sF, fun b u e => ?_, fun b u hb e => g.k b u (fun h => nomatch h) (O.g.k b u hb e), fun b e => g.t b (O.g.t b e), fun b e => ?_, fun b xs e => ?_⟩, fun c hc => ?_, fun c hc => g.k _ _ (fun h => nomatch h) (O.ch c hc), O.nd, O.ca, O.nt⟩, sF, fun b xs e => ?_, fun b e => ?_⟩
  · have e : (if b ∈ as then none else F' b) = some u := e
    by_cases hb : b ∈ as
    · rw [if_pos hb] at e; cases e
    · rw [if_neg hb] at e; exact g.s b u e
  · show (if b ∈ as then none else F' b) = _ ∨ _
    by_cases hb : b ∈ as
    · rw [if_pos hb]
      rcases O.g.n b e with h0 | h0
      · rw [nF b hb] at h0; exact .inl h0
      · exact .inr h0
    · rw [if_neg hb]
      rcases O.g.n b e with h0 | h0
      · rcases g.n b (O.g.t b e) with h1 | ⟨xs, hx⟩
        · refine .inl (h1.trans ?_)
          show (if b ∈ as then H b else F b) = _
          rw [if_neg hb]; exact h0
        · rcases O.g.u b xs hx with z | z
          · exact absurd z e
          · exact .inr ⟨xs, z⟩
      · exact .inr h0
  · rcases g.u b xs e with z | z
    · refine .inl ?_
      cases q : Z.H b with
      | none => rfl
      | some u => exact absurd z (O.g.t b (by rw [q]; simp))
    · exact O.g.u b xs z
  · show (if c.1 ∈ as then none else F' c.1) = none
    by_cases hb : c.1 ∈ as
    · rw [if_pos hb]
    · rw [if_neg hb]
      have hl : lendF as F H c.1 = none := by
        show (if c.1 ∈ as then H c.1 else F c.1) = _
        rw [if_neg hb]; exact O.cf c hc
      exact g.none (O.ch c hc) (O.nt c hc) hl
  · show (if b ∈ as then none else F' b) = _
    by_cases hb : b ∈ as
    · obtain ⟨o, hc⟩ := hin b hb
      have h1 : lendF as F H b = some o := by
        show (if b ∈ as then H b else F b) = _
        rw [if_pos hb]; exact O.ch _ hc
      have h2 := g.f b o h1
      rw [e] at h2
      have h3 := O.nt _ hc
      have h3 : noTup o = true := h3
      rw [← Option.some.inj h2] at h3
      cases h3
    · rw [if_neg hb]; exact e
  · show (if b ∈ as then none else F' b) = _
    by_cases hb : b ∈ as
    · rw [if_pos hb]
    · rw [if_neg hb]; exact e
theorem Ow.fresh (O : Ow Z F cs H) (h : H p = none) : p ∉ cs.map (·.1) := fun hm => by
  obtain ⟨c, hc, e⟩ := List.mem_map.mp hm
  have z := O.ch c hc
  rw [e, h] at z
  cases z
theorem Ow.add' (O : Ow Z F cs H) (hm : p ∉ cs.map (·.1)) (hz : Z.H p = none) (hf : F p = none) (h : H p = some o) (ht : noTup o = true := by rfl) : Ow Z F ((p, o) :: cs) H where
  g := O.g
  cf := fun c hc => by
    rcases List.mem_cons.mp hc with rfl | hc
    · exact hf
    · exact O.cf c hc
  ch := fun c hc => by
    rcases List.mem_cons.mp hc with rfl | hc
    · exact h
    · exact O.ch c hc
  nd := by
    rw [List.map_cons, List.nodup_cons]
    exact ⟨hm, O.nd⟩
  ca := fun c hc => by
    rcases List.mem_cons.mp hc with rfl | hc
    · exact .inr hz
    · exact O.ca c hc
  nt := fun c hc => by
    rcases List.mem_cons.mp hc with rfl | hc
    · exact ht
    · exact O.nt c hc
theorem Ow.ne (O : Ow Z F cs H) (i j : Nat) (hij : i ≠ j) (ei : cs[i]? = some (a, o)) (ej : cs[j]? = some (q, o')) : a ≠ q := fun e => by
  subst e
  have h1 : (cs.map (·.1))[i]? = some a := by rw [List.getElem?_map, ei]; rfl
  have h2 : (cs.map (·.1))[j]? = some a := by rw [List.getElem?_map, ej]; rfl
  exact hij (nd_ix O.nd h1 h2)
end
theorem nmem2 {p q : Addr} {l : List Addr} (h : p ≠ q) (h2 : p ∉ l) : p ∉ q :: l := fun m => by
  rcases List.mem_cons.mp m with e | m
  · exact h e
  · exact h2 m
/-! ### while -/
inductive Ws (s r : Type) where
  | go (x : s)
  | stop (x : s)
  | rt (z : r)
def whL {s r : Type} (b : s → M (Ws s r)) : Nat → s → M (Fl s r)
  | 0, _ => bad
  | n + 1, x => b x >>= fun
    | .go x' => whL b n x'
    | .stop x' => .ok (.nx x')
    | .rt z => .ok (.rt z)
theorem whL_L {s r a : Type} {Q : a → Prop} {E : String → Prop} {b : s → M (Ws s r)} {n : Nat} {x : s} {k : Fl s r → M a} (h : wp (whL b n x >>= k) Q E) :
    ∃ (L : Nat → s → Prop) (X : s → Prop), L n x ∧ (∀ m x, L m x → wp (b x) (fun w => match w with
      | .go x' => ∃ m', m' < m ∧ L m' x'
      | .stop x' => X x'
      | .rt z => wp (k (.rt z)) Q E) E) ∧ ∀ x, X x → wp (k (.nx x)) Q E := by
  refine ⟨fun n x => wp (whL b n x >>= k) Q E, fun x => wp (k (.nx x)) Q E, h, fun m x hx => ?_, fun x hx => hx⟩
  cases m with
  | zero => exact hx.elim
  | succ m =>
    have hx : wp ((b x >>= fun
      | .go x' => whL b m x'
      | .stop x' => .ok (.nx x')
      | .rt z => .ok (.rt z)) >>= k) Q E := hx
    rw [wp_bind, wp_bind] at hx
    cases e : b x with
    | error e2 => rw [e] at hx; cases e2 <;> exact hx
    | ok w =>
      rw [e] at hx
      cases w with
      | go x' => exact ⟨m, Nat.lt_succ_self m, wp_bind.mpr hx⟩
      | stop x' => exact hx
      | rt z => exact hx
theorem while_P {c : TT} {tb : TS} {D : Ends} {σ : L2.St} {H : Hp} (W : Nat → L2.St → Hp → Prop) (X : L2.St → Hp → Prop) (n : Nat) (h0 : W n σ H) (exit : ∀ σ H, X σ H → D.nx σ H)
    (turn : (∀ σ H, X σ H → D.nx σ H) → ∀ m σ H, W m σ H → c σ H fun b H1 => if b = true then ∃ N : L2.St → Hp → Prop, (∀ σ' H', N σ' H' → ∃ m', m' < m ∧ W m' σ' H') ∧ tb { D with nx := N, ct := N, bk := D.nx } σ H1 else D.nx σ H1) : tWhile c tb D σ H :=
  ⟨W, ⟨n, h0⟩, turn exit⟩
/-! ### a < b < c < d -/
section
variable {X : Cx} {a b c d : Expr} {ta tb tc td : TE} {pos : Pos}
def tChain3 (r r' r'' : R2) (ta tb tc td : TE) : TE := fun σ H Q => ta σ H fun x H1 => tb σ H1 fun y H2 => r x y H2 fun z H3 => ∃ k, z = .bl k ∧
  (if k = true then tc σ H3 fun w' H4 => r' y w' H4 fun z' H5 => ∃ k', z' = .bl k' ∧ (if k' = true then td σ H5 fun u' H6 => r'' w' u' H6 Q else Q (.bl false) H5) else Q (.bl false) H3)
theorem pt_chain3 {op op' op'' : CmpOp} {r r' r'' : R2} (ho : OpR X (compareOp op) r) (ho' : OpR X (compareOp op') r') (ho'' : OpR X (compareOp op'') r'') (ha : PE X a ta) (hb : PE X b tb) (hc : PE X c tc) (hd : PE X d td)
    (hm : lastMarks [op, op', op''] [b, c, d] = false := by with_unfolding_all rfl) : PT X (.Compare a [op, op', op''] [b, c, d] pos) (tTest (tChain3 r r' r'' ta tb tc td)) := by
  refine ⟨fun pins s σ H Q I h => ?_⟩
  refine isTrue_chain (thn (ha.run pins s σ H _ I h) fun v s1 ⟨x, H1, I1, r1, q1⟩ => test_link (thn (hb.run pins s1 σ H1 _ I1 q1) fun u s2 ⟨y, H2, I2, r2, q2⟩ =>
    thn (ho pins s2 σ H2 x y v u _ I2 r1 r2 q2) fun d1 s3 ⟨z, H3, I3, r3, k, e, q3⟩ => ?_)) hm
  subst e
  cases r3
  refine wpAny_truthy_bool ?_
  cases k with
  | false =>
    obtain ⟨k', e', q'⟩ := q3
    cases e'
    exact ite_ff ⟨H3, I3, q'⟩
  | true =>
    refine ite_tt (test_link (thn (hc.run pins s3 σ H3 _ I3 q3) fun w' s4 ⟨z', H4, I4, r4, q4⟩ => thn (ho' pins s4 σ H4 y z' u w' _ I4 r2 r4 q4) fun d2 s5 ⟨z2, H5, I5, r5, k2, e2, q5⟩ => ?_))
    subst e2
    cases r5
    refine wpAny_truthy_bool ?_
    cases k2 with
    | false =>
      obtain ⟨k', e', q'⟩ := q5
      cases e'
      exact ite_ff ⟨H5, I5, q'⟩
    | true =>
      refine ite_tt (test_last (thn (hd.run pins s5 σ H5 _ I5 q5) fun u' s6 ⟨z3, H6, I6, r6, q6⟩ => thn (ho'' pins s6 σ H6 z' z3 w' u' _ I6 r4 r6 q6) fun d3 s7 ⟨z4, H7, I7, r7, k3, e3, q7⟩ => ?_))
      subst e3
      cases r7
      exact wpAny_truthy_bool ⟨H7, I7, q7⟩
end
/-! ### list.index of whole numbers -/
def ixI (xs : List Int) (y : Int) : M Int := if y ∈ xs then .ok ((xs.findIdx (· == y) : Nat) : Int) else bad
theorem wp_ixI {a : Type} {Q : a → Prop} {E : String → Prop} {xs : List Int} {y : Int} {k : Int → M a} (h : wp (ixI xs y >>= k) Q E) : ∃ j, xs.findIdx (· == y) = j ∧ xs[j]? = some y ∧ (∀ (m : Nat) z, m < j → xs[m]? = some z → z ≠ y) ∧ wp (k (j : Int)) Q E := by
  unfold ixI at h
  by_cases hm : y ∈ xs
  · rw [if_pos hm] at h
    have hlt : xs.findIdx (· == y) < xs.length := List.findIdx_lt_length_of_exists ⟨y, hm, by simp⟩
    refine ⟨_, rfl, ?_, fun m z hmj hz e => ?_, h⟩
    · rw [List.getElem?_eq_getElem hlt]
      have := List.findIdx_getElem (w := hlt)
      rw [eq_of_beq this]
    · have := List.not_of_lt_findIdx hmj
      obtain ⟨hl, hz⟩ := List.getElem?_eq_some_iff.mp hz
      rw [hz, e] at this
      simp at this
  · rw [if_neg hm] at h; exact h.elim
theorem all_flat_int : ∀ xs : List Int, (xs.map V.int).all flatV = true
  | [] => rfl
  | x :: xs => by rw [List.map_cons, List.all_cons, all_flat_int xs]; rfl
theorem int_noeq {xs : List Int} {y : Int} {j : Nat} (h : ∀ (m : Nat) z, m < j → xs[m]? = some z → z ≠ y) : ∀ (m : Nat) (z' : V), m < j → (xs.map V.int)[m]? = some z' → eqV z' (.int y) = false := fun m z' hm hz => by
  rw [List.getElem?_map] at hz
  cases e : xs[m]? with
  | none => rw [e] at hz; cases hz
  | some z =>
    rw [e] at hz
    have hz : V.int z = z' := Option.some.inj hz
    subst hz
    have := h m z hm e
    show (z == y) = false
    simpa using this
theorem int_at {xs : List Int} {y : Int} {j : Nat} (h : xs[j]? = some y) : (xs.map V.int)[j]? = some (.int y) := by rw [List.getElem?_map, h]; rfl
theorem int_eq {y : Int} : eqV (.int y) (.int y) = true := by show (y == y) = true; simp
/-! ### dict(list of pairs), the keys whole numbers -/
section
variable {β : Type} [Py β] {F H : Hp}
def mergeD (xs : List (Int × β)) : List (Int × β) := xs.foldl (fun acc p => dPut acc p.1 p.2) []
theorem merge_rd {kvs : List (Key × V)} {xs : List (Int × β)} (hs : RD F kvs xs) : ∀ {acc : List (Key × V)} {ac : List (Int × β)}, RD F acc ac → RD F (mergeK acc kvs) (xs.foldl (fun acc p => dPut acc p.1 p.2) ac) := by
  induction hs with
  | nil => intro acc ac h; exact h
  | @cons k v y kvs xs hv _ ih =>
    intro acc ac h
    exact ih (h.put k hv)
theorem pairs_of_rl {K : PySem.W.Frag} (s : Same F H) : ∀ {vs : List V} {xs : List (Int × β)}, RL F vs xs → ∃ (ps : List Addr) (kvs : List (Key × V)), vs = ps.map V.ref ∧ Paired (fun p kv => SqT K H p [kV kv.1, kv.2]) ps kvs ∧ RD F kvs xs
  | _, [], h => ⟨[], [], RL.nil_ h, .nil, .nil⟩
  | _, x :: xs, h => by
    obtain ⟨w, ws, rfl, h1, h2⟩ := RL.cons_ h
    obtain ⟨ps, kvs, e, hp, hr⟩ := pairs_of_rl (K := K) s h2
    obtain ⟨p, v1, v2, rfl, hp1, h3, h4⟩ := R.t2_ h1
    rw [R.int_ h3] at hp1
    exact ⟨p :: ps, (.inl x.1, v2) :: kvs, by rw [e]; rfl, .cons (SqT.of (s _ _ hp1)) hp, .cons (k := x.1) h4 hr⟩
end
/-! ### the same rules, the fragment told outright (within a comprehension) -/
section
variable {X : Cx} {K : PySem.W.Frag}
theorem ixTupK (h : X.K = K) : IxR X (rIxT K) := by rw [← h]; exact ix_tup
theorem ixListK (h : X.K = K) : IxR X (rIxL K) := by rw [← h]; exact ix_list
theorem listOfK (h : X.K = K) : CallR X (.type "list") (fun xs H Q => ∃ p ys, xs = [.ref p] ∧ (SqL K H p ys ∨ SqT K H p ys) ∧ ∀ l, H l = none → Q (.ref l) (upd H l (.lst ys))) := by rw [← h]; exact call_list_of
theorem isiK (h : X.K = K) : CallR X (.builtin "isinstance") (rIsi K) := by rw [← h]; exact call_isi
theorem slListK (h : X.K = K) : SlR X (rSlL K) := by rw [← h]; exact sl_list
theorem indexK (h : X.K = K) : MtR X "list.index" (rIndex K) := by rw [← h]; exact mt_index
end
/-! ### enumerate in a comprehension -/
def enumL {b : Type} (xs : List b) : List (Int × b) := xs.zipIdx.map fun p => ((p.2 : Int), p.1)
theorem enumL_get {b : Type} {xs : List b} {i : Nat} {x : b} (h : xs[i]? = some x) : (enumL xs).drop i = ((i : Int), x) :: (enumL xs).drop (i + 1) := by
  apply drop_at
  unfold enumL
  rw [List.getElem?_map, List.getElem?_zipIdx, h]
  simp
theorem enumL_len {b : Type} {xs : List b} : (enumL xs).length = xs.length := by unfold enumL; simp
theorem enumL_end {b : Type} {xs : List b} {vs : List V} (h : vs.length = xs.length) : (enumL xs).drop vs.length = [] := by
  rw [h, ← enumL_len, List.drop_length]
theorem comp_lenE {b : Type} {w vs : List V} {xs : List b} {i : Nat} (la : w.length ≤ i) (hi : i < vs.length) (hl : vs.length = xs.length) (c : (enumL xs).length < 16777216) : w.length < sizeLine := by
  rw [enumL_len] at c
  exact lt_line (by omega)
theorem zip_at {a b : Type} {xs : List a} {ys : List b} {i : Nat} {x : a} {y : b} (h : xs[i]? = some x) (h2 : ys[i]? = some y) : (xs.zip ys).drop i = (x, y) :: (xs.zip ys).drop (i + 1) := by
  apply drop_at
  rw [List.getElem?_zip_eq_some]
  exact ⟨h, h2⟩
theorem zip_end {a b : Type} {xs : List a} {ys : List b} {vs ws : List V} (h : vs.length = xs.length) (h2 : ws.length = ys.length) : (xs.zip ys).drop (min vs.length ws.length) = [] := by
  rw [h, h2, ← List.length_zip, List.drop_length]
theorem comp_lenZ {a b : Type} {w vs ws : List V} {xs : List a} {ys : List b} {i : Nat} (la : w.length ≤ i) (hi : i < min vs.length ws.length) (h : vs.length = xs.length) (h2 : ws.length = ys.length) (c : (xs.zip ys).length < 16777216) : w.length < sizeLine := by
  rw [List.length_zip, ← h, ← h2] at c
  exact lt_line (by omega)
section
variable {X : Cx} {K : PySem.W.Frag}
theorem cr_sumK (hc : X.calm = true) (h : X.K = K) : CallR X (.builtin "sum") (rSum K) := by rw [← h]; exact cr_sum hc
end
end PG

set_option Elab.async false
set_option linter.all false
set_option maxRecDepth 100000
set_option maxHeartbeats 4000000
/-! Plain mathematics over the monad M: no program in sight. -/
namespace PG
open PySem L2
open PySem.W (T3 T4 Datum DatumOrd)
section
variable {a b s i : Type}
theorem ok_b (x : a) (k : a → M b) : (Except.ok x >>= k) = k x := rfl
theorem okP_b (x : a) (k : a → M b) : ((Except.ok x : M a) >>= k) = k x := rfl
theorem ret_b (x : a) (k : a → M b) : (ret x >>= k) = k x := rfl
theorem chk_ok {c : Prop} [Decidable c] (h : c) : chk c = .ok () := by unfold chk; rw [if_pos h]
theorem chk_b {c : Prop} [Decidable c] (h : c) (k : Unit → M b) : (chk c >>= k) = k () := by rw [chk_ok h]; rfl
theorem opt_b {o : Option a} {x : a} (h : o = some x) (k : a → M b) : (opt o >>= k) = k x := by rw [h]; rfl
theorem bind_ok {m : M a} {x : a} (h : m = .ok x) (k : a → M b) : (m >>= k) = k x := by rw [h]; rfl
theorem appL_ok {xs : List a} {y : a} (h : xs.length < 16777216) : appL xs y = .ok (xs ++ [y]) := by unfold appL; rw [if_pos h]
theorem ixN_nat {n : Nat} {j : Int} (h0 : 0 ≤ j) (h : j < n) : ixN n j = some j.toNat := by unfold ixN; rw [if_pos h0, if_pos h]
theorem atI_of {xs : List a} {j : Int} {x : a} (h0 : 0 ≤ j) (h : xs[j.toNat]? = some x) : L2.atI xs j = some x := by
  have hl := (List.getElem?_eq_some_iff.mp h).1
  unfold L2.atI
  rw [ixN_nat h0 (by omega)]
  exact h
theorem atI_some {xs : List a} {j : Int} (h0 : 0 ≤ j) (h : j < xs.length) : ∃ x, L2.atI xs j = some x ∧ xs[j.toNat]? = some x := by
  have hl : j.toNat < xs.length := by omega
  exact ⟨xs[j.toNat], atI_of h0 (List.getElem?_eq_getElem hl), List.getElem?_eq_getElem hl⟩
theorem setI_ok {xs : List a} {j : Int} {y : a} (h0 : 0 ≤ j) (h : j < xs.length) : setI xs j y = .ok (xs.set j.toNat y) := by unfold setI; rw [ixN_nat h0 h]
theorem popI_ok {xs : List a} {j : Int} {y : a} (h0 : 0 ≤ j) (h : xs[j.toNat]? = some y) (hl : xs.length < 16777216) : popI xs j = .ok (y, xs.eraseIdx j.toNat) := by
  have h1 := (List.getElem?_eq_some_iff.mp h).1
  unfold popI
  rw [if_pos hl, ixN_nat h0 (by omega)]
  show (match xs[j.toNat]? with
    | some y => (Except.ok (y, xs.eraseIdx j.toNat) : M _)
    | none => bad) = _
  rw [h]
/-- loops by an invariant over the items gone through -/
theorem loopN_inv {f : i → s → M s} (P : List i → s → Prop) : ∀ {xs pre : List i} {x : s}, P pre x → (∀ pre y ys x, xs ++ [] = xs → P pre x → (∃ q, q ++ y :: ys = pre ++ y :: ys) → ∃ x', f y x = .ok x' ∧ P (pre ++ [y]) x') → ∃ x', loopN f xs x = .ok x' ∧ P (pre ++ xs) x' := by
  intro xs
  induction xs with
  | nil => intro pre x h _; exact ⟨x, rfl, by rw [List.append_nil]; exact h⟩
  | cons y ys ih =>
    intro pre x h hs
    obtain ⟨x1, e1, h1⟩ := hs pre y ys x (List.append_nil _) h ⟨pre, rfl⟩
    obtain ⟨x2, e2, h2⟩ := ih (pre := pre ++ [y]) h1 fun pre y ys x _ hp hq => hs pre y ys x (List.append_nil _) hp hq
    refine ⟨x2, ?_, by rw [List.append_assoc] at h2; exact h2⟩
    show (f y x >>= fun x' => loopN f ys x') = _
    rw [e1]
    exact e2
/-- .. with what is known of the items -/
theorem loopN_run {f : i → s → M s} {all : List i} (P : List i → s → Prop) {x : s} (h : P [] x) (hs : ∀ pre y post x, all = pre ++ y :: post → P pre x → ∃ x', f y x = .ok x' ∧ P (pre ++ [y]) x') : ∃ x', loopN f all x = .ok x' ∧ P all x' := by
  have go : ∀ (xs pre : List i) (x : s), all = pre ++ xs → P pre x → ∃ x', loopN f xs x = .ok x' ∧ P (pre ++ xs) x' := by
    intro xs
    induction xs with
    | nil => intro pre x _ h; exact ⟨x, rfl, by rw [List.append_nil]; exact h⟩
    | cons y ys ih =>
      intro pre x e h
      obtain ⟨x1, e1, h1⟩ := hs pre y ys x e h
      obtain ⟨x2, e2, h2⟩ := ih (pre ++ [y]) x1 (by rw [List.append_assoc]; exact e) h1
      refine ⟨x2, ?_, by rw [List.append_assoc] at h2; exact h2⟩
      show (f y x >>= fun x' => loopN f ys x') = _
      rw [e1]
      exact e2
  exact go all [] x rfl h
/-- a loop that goes on at each item -/
theorem loopM_run {r : Type} {f : i → s → M (Fl s r)} {all : List i} (P : List i → s → Prop) {x : s} (h : P [] x) (hs : ∀ pre y post x, all = pre ++ y :: post → P pre x → ∃ x', f y x = .ok (.nx x') ∧ P (pre ++ [y]) x') : ∃ x', loopM f all x = .ok (.nx x') ∧ P all x' := by
  have go : ∀ (xs pre : List i) (x : s), all = pre ++ xs → P pre x → ∃ x', loopM f xs x = .ok (.nx x') ∧ P (pre ++ xs) x' := by
    intro xs
    induction xs with
    | nil => intro pre x _ h; exact ⟨x, rfl, by rw [List.append_nil]; exact h⟩
    | cons y ys ih =>
      intro pre x e h
      obtain ⟨x1, e1, h1⟩ := hs pre y ys x e h
      obtain ⟨x2, e2, h2⟩ := ih (pre ++ [y]) x1 (by rw [List.append_assoc]; exact e) h1
      refine ⟨x2, ?_, by rw [List.append_assoc] at h2; exact h2⟩
      show (f y x >>= fun q => match q with
        | .nx x' => loopM f ys x'
        | .rt z => .ok (.rt z)) = _
      rw [e1]
      exact e2
  exact go all [] x rfl h
/-- .. that has no state -/
theorem loopM_all {r : Type} {f : i → Unit → M (Fl Unit r)} {all : List i} (hs : ∀ y ∈ all, f y () = .ok (.nx ())) : loopM f all () = .ok (.nx ()) := by
  obtain ⟨x, e, _⟩ := loopM_run (f := f) (all := all) (fun _ _ => True) (x := ()) trivial fun pre y post x e _ => ⟨(), by cases x; exact hs y (by rw [e]; simp), trivial⟩
  exact e
theorem compX_run {c : Type} {f : i → s → M (Option c × s)} {all : List i} (P : List i → List c → s → Prop) {x : s} (h : P [] [] x)
    (hs : ∀ pre y post acc x, all = pre ++ y :: post → P pre acc x → ∃ o x', f y x = .ok (o, x') ∧ P (pre ++ [y]) (match o with
      | some z => acc ++ [z]
      | none => acc) x') : ∃ acc x', compX f all [] x = .ok (acc, x') ∧ P all acc x' := by
  have go : ∀ (xs pre : List i) (acc : List c) (x : s), all = pre ++ xs → P pre acc x → ∃ acc' x', compX f xs acc x = .ok (acc', x') ∧ P (pre ++ xs) acc' x' := by
    intro xs
    induction xs with
    | nil => intro pre acc x _ h; exact ⟨acc, x, rfl, by rw [List.append_nil]; exact h⟩
    | cons y ys ih =>
      intro pre acc x e h
      obtain ⟨o, x1, e1, h1⟩ := hs pre y ys acc x e h
      obtain ⟨acc2, x2, e2, h2⟩ := ih (pre ++ [y]) _ x1 (by rw [List.append_assoc]; exact e) h1
      refine ⟨acc2, x2, ?_, by rw [List.append_assoc] at h2; exact h2⟩
      show (nox (f y x) >>= fun p => compX f ys (match p.1 with
        | some z => acc ++ [z]
        | none => acc) p.2) = _
      rw [e1]
      exact e2
  exact go all [] [] x rfl h
theorem compS_run {c : Type} {f : i → s → M (Option c × s)} {all : List i} (hl : all.length < 16777216) (P : List i → List c → s → Prop) {x : s} (h : P [] [] x)
    (hs : ∀ pre y post acc x, all = pre ++ y :: post → P pre acc x → ∃ o x', f y x = .ok (o, x') ∧ P (pre ++ [y]) (match o with
      | some z => acc ++ [z]
      | none => acc) x') : ∃ acc x', compS f all x = .ok (acc, x') ∧ P all acc x' := by
  unfold compS
  rw [chk_b hl]
  exact compX_run P h hs
/-- a plain map with a test -/
theorem compS_pure {c : Type} {f : i → Unit → M (Option c × Unit)} {all : List i} (g : i → Option c) (hl : all.length < 16777216) (hs : ∀ y ∈ all, f y () = .ok (g y, ())) : compS f all () = .ok (all.filterMap g, ()) := by
  obtain ⟨acc, x, e, h⟩ := compS_run (f := f) (all := all) hl (fun pre acc _ => acc = pre.filterMap g) (x := ()) rfl fun pre y post acc x e h => by
    refine ⟨g y, (), by cases x; exact hs y (by rw [e]; simp), ?_⟩
    rw [h, List.filterMap_append]
    cases e2 : g y with
    | none => simp [e2]
    | some z => simp [e2]
  rw [e, h]
end

/-! ### sorted lists -/
section
variable {a : Type}
/-- two sorted lists of the same things are one -/
theorem perm_sorted_eq {le : a → a → Bool} (anti : ∀ x y, le x y = true → le y x = true → x = y) : ∀ {xs ys : List a}, xs.Perm ys → xs.Pairwise (fun x y => le x y = true) → ys.Pairwise (fun x y => le x y = true) → xs = ys := by
  intro xs
  induction xs with
  | nil => intro ys h _ _; exact (List.nil_perm.mp h).symm
  | cons x xs ih =>
    intro ys h hx hy
    cases ys with
    | nil => exact absurd h.length_eq (by simp)
    | cons y ys =>
      rw [List.pairwise_cons] at hx hy
      have e : x = y := by
        have m1 : x ∈ y :: ys := h.mem_iff.mp List.mem_cons_self
        have m2 : y ∈ x :: xs := h.mem_iff.mpr List.mem_cons_self
        rcases List.mem_cons.mp m1 with r | r
        · exact r
        · rcases List.mem_cons.mp m2 with q | q
          · exact q.symm
          · exact anti x y (hx.1 y q) (hy.1 x r)
      subst e
      rw [ih (List.Perm.cons_inv h) hx.2 hy.2]
class LeOk (a : Type) [DecidableEq a] [DatumOrd a] : Prop where
  tr : ∀ x y z : a, leT x y = true → leT y z = true → leT x z = true
  tot : ∀ x y : a, (leT x y || leT y x) = true
  anti : ∀ x y : a, leT x y = true → leT y x = true → x = y
theorem leT_int (x y : Int) : leT x y = decide (x ≤ y) := by
  show (!decide (y < x)) = decide (x ≤ y)
  by_cases h : y < x
  · have : ¬ x ≤ y := by omega
    simp [h, this]
  · have : x ≤ y := by omega
    simp [h, this]
instance : LeOk Int where
  tr x y z h1 h2 := by
    rw [leT_int, decide_eq_true_eq] at h1 h2 ⊢
    omega
  tot x y := by
    rw [leT_int, leT_int, Bool.or_eq_true, decide_eq_true_eq, decide_eq_true_eq]
    omega
  anti x y h1 h2 := by
    rw [leT_int, decide_eq_true_eq] at h1 h2
    omega
theorem leT_p (x y : Int × Int) : leT x y = decide (x.1 < y.1 ∨ (x.1 = y.1 ∧ x.2 ≤ y.2)) := by
  show (!(if y.1 = x.1 then decide (y.2 < x.2) else decide (y.1 < x.1))) = _
  by_cases h : y.1 = x.1
  · rw [if_pos h]
    by_cases h2 : y.2 < x.2
    · have : ¬ (x.1 < y.1 ∨ (x.1 = y.1 ∧ x.2 ≤ y.2)) := by omega
      simp [h2, this]
    · have : (x.1 < y.1 ∨ (x.1 = y.1 ∧ x.2 ≤ y.2)) := by omega
      simp [h2, this]
  · rw [if_neg h]
    by_cases h2 : y.1 < x.1
    · have : ¬ (x.1 < y.1 ∨ (x.1 = y.1 ∧ x.2 ≤ y.2)) := by omega
      simp [h2, this]
    · have : (x.1 < y.1 ∨ (x.1 = y.1 ∧ x.2 ≤ y.2)) := by omega
      simp [h2, this]
instance : LeOk (Int × Int) where
  tr x y z h1 h2 := by
    rw [leT_p, decide_eq_true_eq] at h1 h2 ⊢
    omega
  tot x y := by
    rw [leT_p, leT_p, Bool.or_eq_true, decide_eq_true_eq, decide_eq_true_eq]
    omega
  anti x y h1 h2 := by
    rw [leT_p, decide_eq_true_eq] at h1 h2
    exact Prod.ext (by omega) (by omega)
theorem leT_3 (x y : T3 Int Int Int) : leT x y = decide (x.a < y.a ∨ (x.a = y.a ∧ (x.b < y.b ∨ (x.b = y.b ∧ x.c ≤ y.c)))) := by
  show (!DatumOrd.lt y x) = _
  have e : DatumOrd.lt y x = decide (y.a < x.a ∨ (y.a = x.a ∧ (y.b < x.b ∨ (y.b = x.b ∧ y.c < x.c)))) := by
    rw [Bool.eq_iff_iff, decide_eq_true_eq]
    show (if y.a = x.a then (if y.b = x.b then decide (y.c < x.c) else decide (y.b < x.b)) else decide (y.a < x.a)) = true ↔ _
    by_cases h : y.a = x.a
    · rw [if_pos h]
      by_cases h2 : y.b = x.b
      · rw [if_pos h2, decide_eq_true_eq]; omega
      · rw [if_neg h2, decide_eq_true_eq]; omega
    · rw [if_neg h, decide_eq_true_eq]; omega
  rw [e, Bool.eq_iff_iff, Bool.not_eq_true', decide_eq_false_iff_not, decide_eq_true_eq]
  omega
instance : LeOk (T3 Int Int Int) where
  tr x y z h1 h2 := by
    rw [leT_3, decide_eq_true_eq] at h1 h2 ⊢
    omega
  tot x y := by
    rw [leT_3, leT_3, Bool.or_eq_true, decide_eq_true_eq, decide_eq_true_eq]
    omega
  anti x y h1 h2 := by
    rw [leT_3, decide_eq_true_eq] at h1 h2
    exact PySem.W.T3.same (by omega) (by omega) (by omega)
variable [DecidableEq a] [DatumOrd a] [LeOk a]
theorem sortT_perm (xs : List a) : (sortT xs).Perm xs := List.mergeSort_perm xs _
theorem sortT_sorted (xs : List a) : (sortT xs).Pairwise (fun x y => leT x y = true) := List.pairwise_mergeSort (fun x y z => LeOk.tr x y z) (fun x y => LeOk.tot x y) xs
theorem sortT_eq {xs ys : List a} (h : xs.Perm ys) : sortT xs = sortT ys :=
  perm_sorted_eq LeOk.anti ((sortT_perm xs).trans (h.trans (sortT_perm ys).symm)) (sortT_sorted xs) (sortT_sorted ys)
theorem sortT_id {xs : List a} (h : xs.Pairwise (fun x y => leT x y = true)) : sortT xs = xs := perm_sorted_eq LeOk.anti (sortT_perm xs) (sortT_sorted xs) h
theorem sortT_idem (xs : List a) : sortT (sortT xs) = sortT xs := sortT_id (sortT_sorted xs)
theorem sortT_len (xs : List a) : (sortT xs).length = xs.length := (sortT_perm xs).length_eq
theorem sortT_mem {xs : List a} {x : a} : x ∈ sortT xs ↔ x ∈ xs := (sortT_perm xs).mem_iff
end
/-! ### numbers -/
theorem cdivW {i j : Int} (h : 0 < j) (h2 : j ≤ 10 ^ 40) : CDivW i j := by
  have h3 : j.natAbs ≤ 10 ^ 40 := by omega
  exact wide_div (b := 200) h (Nat.lt_of_le_of_lt h3 (by decide)) (by decide) (by decide)
theorem cmulW {i j : Int} (h1 : i.natAbs < 2 ^ 100000) (h2 : j.natAbs < 2 ^ 100000) : CMulW i j := wide_mul h1 h2 (by decide) (by decide) (by decide)

theorem erase_perm {a : Type} : ∀ {l : List a} {j : Nat} (h : j < l.length), (l[j] :: l.eraseIdx j).Perm l
  | x :: l, 0, _ => List.Perm.refl _
  | x :: l, j + 1, h => by
    have h' : j < l.length := by simpa using h
    show (l[j] :: x :: l.eraseIdx j).Perm (x :: l)
    exact (List.Perm.swap _ _ _).trans (List.Perm.cons _ (erase_perm h'))

/-! ### trees -/
abbrev Tie := T3 Int Int Int
abbrev Tr := List Int × List Tie
def tieOf (p q c : Int) : Tie := if p ≤ q then ⟨p, q, c⟩ else ⟨q, p, c⟩
/-- place by place, each new one tied to one that is there -/
inductive Grown : List Int → List Tie → Prop
  | one (p : Int) : Grown [p] []
  | more {ps : List Int} {ts : List Tie} (q p c : Int) : Grown ps ts → q ∈ ps → p ∉ ps → Grown (ps ++ [p]) (ts ++ [tieOf p q c])
theorem tieOf_lt {p q c : Int} (h : p ≠ q) : (tieOf p q c).a < (tieOf p q c).b ∧ ((tieOf p q c).a = p ∧ (tieOf p q c).b = q ∨ (tieOf p q c).a = q ∧ (tieOf p q c).b = p) ∧ (tieOf p q c).c = c := by
  unfold tieOf
  by_cases h1 : p ≤ q
  · rw [if_pos h1]; exact ⟨by show p < q; omega, .inl ⟨rfl, rfl⟩, rfl⟩
  · rw [if_neg h1]; exact ⟨by show q < p; omega, .inr ⟨rfl, rfl⟩, rfl⟩
theorem Grown.in {ps : List Int} {ts : List Tie} (g : Grown ps ts) : ∀ t ∈ ts, t.a ∈ ps ∧ t.b ∈ ps ∧ t.a < t.b := by
  induction g with
  | one p => intro t h; cases h
  | @more ps ts q p c g hq hp ih =>
    intro t h
    rcases List.mem_append.mp h with h | h
    · obtain ⟨h1, h2, h3⟩ := ih t h
      exact ⟨List.mem_append_left _ h1, List.mem_append_left _ h2, h3⟩
    · have e := List.mem_singleton.mp h
      subst e
      have hpq : p ≠ q := fun e => hp (e ▸ hq)
      obtain ⟨l, hab, _⟩ := tieOf_lt (c := c) hpq
      have mp : p ∈ ps ++ [p] := by simp
      have mq : q ∈ ps ++ [p] := List.mem_append_left _ hq
      rcases hab with ⟨h1, h2⟩ | ⟨h1, h2⟩
      · exact ⟨by rw [h1]; exact mp, by rw [h2]; exact mq, l⟩
      · exact ⟨by rw [h1]; exact mq, by rw [h2]; exact mp, l⟩
theorem Grown.len {ps : List Int} {ts : List Tie} (g : Grown ps ts) : ps.length = ts.length + 1 := by
  induction g with
  | one p => rfl
  | more q p c g hq hp ih => rw [List.length_append, List.length_append, ih]; rfl
theorem Grown.nd {ps : List Int} {ts : List Tie} (g : Grown ps ts) : ps.Nodup := by
  induction g with
  | one p => simp
  | more q p c g hq hp ih => exact List.nodup_append.mpr ⟨ih, by simp, fun x hx y hy e => by rw [List.mem_singleton.mp hy] at e; exact hp (e ▸ hx)⟩
/-- a tree: its worths, its ties sorted -/
structure TreeOk (t : Tr) : Prop where
  ex : ∃ ps ts, Grown ps ts ∧ ps.Perm (rangeL 0 (t.1.length : Int)) ∧ t.2 = sortT ts
theorem TreeOk.pos {t : Tr} (h : TreeOk t) : 1 ≤ t.1.length := by
  obtain ⟨ps, ts, g, p, e⟩ := h.ex
  have h1 := p.length_eq
  rw [rangeL_length] at h1
  have := g.len
  omega
theorem TreeOk.len {t : Tr} (h : TreeOk t) : t.1.length = t.2.length + 1 := by
  obtain ⟨ps, ts, g, p, e⟩ := h.ex
  have h1 := p.length_eq
  rw [rangeL_length] at h1
  have := g.len
  rw [e, sortT_len]
  omega
theorem rangeL_mem' {lo hi x : Int} : x ∈ rangeL lo hi ↔ lo ≤ x ∧ x < hi := by
  unfold rangeL
  rw [List.mem_map]
  constructor
  · rintro ⟨j, hj, rfl⟩
    have := List.mem_range.mp hj
    omega
  · rintro ⟨h1, h2⟩
    exact ⟨(x - lo).toNat, List.mem_range.mpr (by omega), by omega⟩
theorem TreeOk.tie {t : Tr} (h : TreeOk t) : ∀ x ∈ t.2, 0 ≤ x.a ∧ x.a < x.b ∧ x.b < (t.1.length : Int) := by
  obtain ⟨ps, ts, g, p, e⟩ := h.ex
  intro x hx
  rw [e, sortT_mem] at hx
  obtain ⟨h1, h2, h3⟩ := g.in x hx
  have a1 := rangeL_mem'.mp (p.mem_iff.mp h1)
  have a2 := rangeL_mem'.mp (p.mem_iff.mp h2)
  exact ⟨a1.1, h3, a2.2⟩
theorem TreeOk.sorted {t : Tr} (h : TreeOk t) : sortT t.2 = t.2 := by
  obtain ⟨ps, ts, g, p, e⟩ := h.ex
  rw [e, sortT_idem]
theorem sort2 (x y : Int) : sortT [x, y] = if x ≤ y then [x, y] else [y, x] := by
  by_cases h : x ≤ y
  · rw [if_pos h]
    exact sortT_id (by simp [leT_int, h])
  · rw [if_neg h]
    have e : sortT [x, y] = sortT [y, x] := sortT_eq (List.Perm.swap _ _ _)
    rw [e]
    exact sortT_id (by simp [leT_int]; omega)

theorem fm_congr {a b : Type} {f g : a → Option b} : ∀ {l : List a}, (∀ x ∈ l, f x = g x) → l.filterMap f = l.filterMap g
  | [], _ => rfl
  | x :: l, h => by
    have h1 := h x List.mem_cons_self
    have h2 := fm_congr (l := l) fun y hy => h y (List.mem_cons_of_mem _ hy)
    rw [List.filterMap_cons, List.filterMap_cons, h1, h2]
end PG

set_option Elab.async false
set_option linter.all false
set_option maxRecDepth 100000
namespace G
open PySem PySem.Spec PyProof.Rows L2 PG
open PySem.W (T3 T4 Datum DatumOrd)
def top (i : Nat) : Stmt := PySem.Challenge.pw_everyseat_k04_ways.main.body.getD i (.Pass ⟨0, 0, 0, 0⟩)
structure Nb (mg : Str → Option Value) : Prop where
  b_bool : mg "bool" = none
  b_int : mg "int" = none
  b_isinstance : mg "isinstance" = none
  b_len : mg "len" = none
  b_list : mg "list" = none
  b_max : mg "max" = none
  b_min : mg "min" = none
  b_range : mg "range" = none
  b_set : mg "set" = none
  b_sorted : mg "sorted" = none
  b_sum : mg "sum" = none
  b_tuple : mg "tuple" = none
  b_zip : mg "zip" = none
section
variable {P : Program} {w : World} {K : PySem.W.Frag} {mg : Str → Option Value} {base : Heap}
abbrev s_tied_places : Stmt := top 4
theorem sc_tied_places : FnScope ["many", "ties", "found", "a", "b", "length", "near", "place"] ["many", "ties"] (defScope s_tied_places) := ⟨rfl, rfl, rfl, by decide +kernel, rfl, by decide +kernel, by decide +kernel⟩
def addAt (fs : List (List Int)) (a b : Int) : M (List (List Int)) := match ixN fs.length a with
  | some j => (match fs[j]? with
    | some x => appL x b >>= fun y => .ok (fs.set j y)
    | none => bad)
  | none => bad
def m_tied_places (x_many : Int) (x_ties : List (T3 Int Int Int)) : M (List (List Int)) :=
  chk (okR x_many) >>= fun _ =>
  loopN (fun (t : T3 Int Int Int) (fs : List (List Int)) => addAt fs t.a t.b >>= fun f1 => addAt f1 t.b t.a) (sortT x_ties) (List.replicate x_many.toNat []) >>= fun fs =>
  .ok (fs.map sortT)
theorem wp_addAt {b : Type} {Q : b → Prop} {E : String → Prop} {fs : List (List Int)} {a y : Int} {k : List (List Int) → M b} (h : wp (addAt fs a y >>= k) Q E) :
    ∃ j x, ixN fs.length a = some j ∧ fs[j]? = some x ∧ x.length < sizeLine ∧ wp (k (fs.set j (x ++ [y]))) Q E := by
  unfold addAt at h
  cases e : ixN fs.length a with
  | none => rw [e] at h; exact h.elim
  | some j =>
    rw [e] at h
    have h : wp ((match fs[j]? with
      | some x => appL x y >>= fun y => .ok (fs.set j y)
      | none => bad) >>= k) Q E := h
    cases e2 : fs[j]? with
    | none => rw [e2] at h; exact h.elim
    | some x =>
      rw [e2] at h
      have h : wp ((appL x y >>= fun y => .ok (fs.set j y)) >>= k) Q E := h
      rw [wp_bind] at h
      obtain ⟨c, h⟩ := wp_appL h
      exact ⟨j, x, rfl, e2, c, h⟩
/-- all lists are new -/
def sp_tied_places_own (mg : Str → Option Value) : Sp := fun vs H Q E => ∃ (F : Hp) (x_many : Int) (v_ties : V) (x_ties : List (T3 Int Int Int)), vs = [.int x_many, v_ties] ∧ Pre F [] H ∧ R F v_ties x_ties ∧
  wp (m_tied_places x_many x_ties) (fun r => ∀ (F' H' : Hp) (p : Addr) (ps : List LC), Gr [] F H F' H' → OwnLL H F' H' p ps → ps.map (·.2) = r → Q (.ref p) H')
  (fun n => ∀ (C : Addr) (H' : Hp), mg (Str.ofString n) = some (.ref C) → Kp [] H H' → E (.ref C) none H')
def sp_tied_places (mg : Str → Option Value) : Sp := fun vs H Q E => ∃ (F : Hp) (x_many : Int) (v_ties : V) (x_ties : (List (T3 Int Int Int))), vs = [.int x_many, v_ties] ∧ Pre F [] H ∧ R (a := (List (T3 Int Int Int))) F v_ties x_ties ∧
  wp (m_tied_places x_many x_ties) (fun r => ∀ (F' H' : Hp), Gr [] F H F' H' → ∀ (p : Addr) (w : List V), H p = none → F' p = none → H' p = some (.lst w) → RL (a := (List Int)) F' w r → Q (.ref p) H')
  (fun n => ∀ (C : Addr) (H' : Hp), mg (Str.ofString n) = some (.ref C) → Kp [] H H' → E (.ref C) none H')
theorem lc_set {ps : List LC} {j : Nat} {c : LC} {y : List Int} (h : ps[j]? = some c) : (ps.set j (c.1, y)).map (·.1) = ps.map (·.1) ∧ (ps.set j (c.1, y)).map (·.2) = (ps.map (·.2)).set j y := by
  refine ⟨?_, by rw [List.map_set]⟩
  rw [List.map_set]
  refine List.ext_getElem? fun k => ?_
  by_cases hk : j = k
  · subst hk
    have hl := (List.getElem?_eq_some_iff.mp h).1
    rw [List.getElem?_set_self (by simpa using hl), List.getElem?_map, h]
    rfl
  · rw [List.getElem?_set_ne hk]
/-- one append -/
theorem tp_app {Z : Ent} {F H : Hp} {D : Addr} {o : HO} {rest : List (Addr × HO)} {ps : List LC} (O : Ow Z F ((D, o) :: ps.map lcell) H) {j : Nat} {c : LC} (h : ps[j]? = some c) (y : Int) :
    Ow Z F ((D, o) :: (ps.set j (c.1, c.2 ++ [y])).map lcell) (upd H c.1 (.lst (c.2.map V.int ++ [V.int y]))) ∧ H c.1 = some (.lst (c.2.map V.int)) := by
  have e : ((D, o) :: ps.map lcell)[j + 1]? = some (c.1, .lst (c.2.map V.int)) := by
    rw [List.getElem?_cons_succ, List.getElem?_map, h]
    rfl
  refine ⟨?_, O.at (j + 1) e⟩
  have q := O.set (j + 1) (.lst (c.2.map V.int ++ [V.int y])) e
  have e2 : ((D, o) :: ps.map lcell).set (j + 1) (c.1, .lst (c.2.map V.int ++ [V.int y])) = (D, o) :: (ps.set j (c.1, c.2 ++ [y])).map lcell := by
    rw [List.set_cons_succ, List.map_set]
    unfold lcell
    rw [List.map_append]
    rfl
  rw [e2] at q
  exact q
theorem tp_at {ps : List LC} {j : Nat} {x : List Int} (h : (ps.map (·.2))[j]? = some x) : ∃ c, ps[j]? = some c ∧ c.2 = x := by
  rw [List.getElem?_map] at h
  cases e : ps[j]? with
  | none => rw [e] at h; cases h
  | some c => rw [e] at h; exact ⟨c, rfl, Option.some.inj h⟩
theorem tp_ix {ps : List LC} {a : Int} {j : Nat} {c : LC} (e : ixN (ps.map (·.2)).length a = some j) (h : ps[j]? = some c) : atI (lrefs ps) a = some (.ref c.1) := by
  unfold atI lrefs
  rw [List.length_map] at e ⊢
  rw [e]
  show (lrefs ps)[j]? = _
  rw [List.getElem?_map, h]
  rfl
set_option maxHeartbeats 4000000 in
theorem ok_tied_places_own (nb : Nb mg) (D : Df K mg "tied_places" "tied_places" s_tied_places ["many", "ties"]) : Ca P w K mg base "tied_places" 1 ["many", "ties"] (sp_tied_places_own mg) := by
  refine Ca.mk' D sc_tied_places (fun vs H Q E h => ?_) (fun q_ f_ cdv A outer s H vs Q E hr h => ?_)
  · obtain ⟨F, _, _, _, rfl, _⟩ := h
    rfl
  · obtain ⟨F, x_many, v_ties, x_ties, rfl, P0, f_ties, hk⟩ := h
    have nd := sc_tied_places.nd
    have hu128 := hu128_of hr
    have O := P0.start
    refine ⟨_, pss_cons (ps_setLc (i := 2) (own := [("place", 7)]) (g := _) (tt := _) rfl nd rfl rfl (sw_true rfl rfl rfl (by decide +kernel)) (pi_range1 rfl nb.b_range (pa_cons (pv 0) pa_nil))
        (blkOk_by (own := [("place", 7)]) (N := ["many", "ties", "found", "a", "b", "length", "near", "place"]) (sc := defScope s_tied_places) (by decide +kernel)) (fun _ _ _ _ _ => (pg_name (i := 7) nd rfl (Or.inl rfl))) (fun _ _ _ _ _ => pts_nil) (fun _ _ _ _ _ => pe_lst pa_nil))
      (pss_cons (ps_for (passes_of rfl) rfl (pi_list (pe_callB (cr_sortedT (T3 Int Int Int) hu128) (by rfl) nb.b_sorted (by decide +kernel) (pa_cons (pv 1) pa_nil)))
        (pg_tup rfl (pgs_cons (pg_name (i := 3) nd rfl (Or.inl rfl)) (pgs_cons (pg_name (i := 4) nd rfl (Or.inl rfl)) (pgs_cons (pg_name (i := 5) nd rfl (Or.inl rfl)) pgs_nil))))
        (pss_cons (ps_expr (pe_bm PySem.F.plainAttrs_list PySem.F.slot_list_append PySem.F.type_list_append mt_append (pe_ix ix_list (pv 2) (pv 3) (fun _ _ => rfl)) (pa_cons (pv 4) pa_nil)))
          (pss_one (ps_expr (pe_bm PySem.F.plainAttrs_list PySem.F.slot_list_append PySem.F.type_list_append mt_append (pe_ix ix_list (pv 2) (pv 4) (fun _ _ => rfl)) (pa_cons (pv 3) pa_nil))))))
      (pss_one (ps_ret (pe_lc (own := [("near", 6)]) (g := _) (tt := _) rfl nd (pi_list (pv 2))
        (blkOk_by (own := [("near", 6)]) (N := ["many", "ties", "found", "a", "b", "length", "near", "place"]) (sc := defScope s_tied_places) (by decide +kernel)) (fun _ _ _ _ _ => (pg_name (i := 6) nd rfl (Or.inl rfl))) (fun _ _ _ _ _ => pts_nil)
        (fun _ _ _ _ _ => pe_callB (cr_sortedT Int hu128) (by rfl) nb.b_sorted (by decide +kernel) (pa_cons (pv 6) pa_nil)))))), ?_⟩
    obtain ⟨c1, hk⟩ := wp_chk hk
    obtain ⟨L, hL, hLs, hLd⟩ := loopN_L hk
    refine ⟨_, rfl, _, rfl, c1.lo, c1.hi, fun D hD => ?_⟩
    refine lc_range (lo := 0) (n := x_many.toNat) (fun i H => ∃ ps : List LC, Ow _ F ((D, .lst (lrefs ps)) :: ps.map lcell) H ∧ ps.map (·.2) = List.replicate i []) ⟨[], O.new hD, rfl⟩ ?_ ?_
    · rintro i H1 hi ⟨ps, O1, e1⟩
      refine ⟨rfl, (by show 0 ≤ sizeLine; decide), fun q hq => ?_⟩
      have O2 := O1.new (o := .lst []) hq
      have hlen : ps.length = i := by
        have := congrArg List.length e1
        simpa using this
      have b := c1.2
      refine ⟨_, O2.at 1 rfl, lt_line (by rw [List.length_map]; omega), ps ++ [(q, [])], ?_, by rw [List.map_append, e1, List.replicate_succ']; rfl⟩
      have O3 := O2.set 1 (.lst ((lrefs ps) ++ [V.ref q])) rfl
      have ea : lrefs (ps ++ [(q, [])]) = lrefs ps ++ [V.ref q] := List.map_append
      rw [ea, List.map_append]
      refine O3.perm ?_
      show ((q, HO.lst []) :: (D, _) :: ps.map lcell).Perm ((D, _) :: (ps.map lcell ++ [(q, HO.lst [])]))
      refine (List.Perm.swap _ _ _).trans (List.Perm.cons _ ?_)
      exact (List.perm_append_comm (l₁ := [(q, HO.lst [])]) (l₂ := ps.map lcell))
    · rintro H1 ⟨ps, O1, e1⟩
      obtain ⟨p1, w1, e2, h2, hl2⟩ := R.lst_ f_ties
      cases e2
      refine ⟨_, rfl, _, _, _, rfl, O1.s _ _ h2, RL.mono hl2 O1.s, fun p3 hp3 => ?_⟩
      obtain ⟨F4, O4, S4, h4⟩ := O1.putE hp3 (.lst (sortV w1 x_ties))
      have hl4 := (RL.sorted hl2).mono S4
      refine ⟨_, rfl, ⟨_, SqLF O4.s h4⟩, ?_⟩
      rw [← e1] at hL
      refine for_list (K := K) (xs := sortV w1 x_ties) (fun i σ H => ∃ (ps' : List LC) (t3 t4 t5 : Option V), σ = [some (V.int x_many), some (V.ref p1), some (V.ref D), t3, t4, t5, none, none] ∧ Ow _ F4 ((D, .lst (lrefs ps')) :: ps'.map lcell) H ∧ ps'.length = x_many.toNat ∧ L (List.drop i (sortT x_ties)) (ps'.map fun (c : LC) => c.2))
        ⟨ps, none, none, none, rfl, O4, (by have := congrArg List.length e1; simpa using this), hL⟩ (fun i_ σ_ H_ _ hp_ => ?_) ?_ ?_
      · obtain ⟨_, _, _, _, _, hO_, _⟩ := hp_
        exact SqLF hO_.s h4
      · rintro i x σ H5 hi ⟨ps', t3, t4, t5, rfl, O5, hl5, hL5⟩
        obtain ⟨y, ey, hy⟩ := RL.got hl4 hi
        rw [drop_at ey] at hL5
        have hk := hLs _ _ _ hL5
        obtain ⟨p6, v1, v2, v3, e6, h6, r1, r2, r3⟩ := R.t3_ hy
        cases e6
        obtain rfl := R.int_ r1
        obtain rfl := R.int_ r2
        obtain rfl := R.int_ r3
        obtain ⟨j, x, ej, ex, cl, hk⟩ := wp_addAt hk
        have hk := wp_bind (k := fun r => Except.ok r) |>.mpr hk
        obtain ⟨j2, x2, ej2, ex2, cl2, hk⟩ := wp_addAt hk
        obtain ⟨c, hc, rfl⟩ := tp_at ex
        obtain ⟨O6, hq6⟩ := tp_app (rest := []) O5 hc y.b
        obtain ⟨l1, l2⟩ := lc_set (y := c.2 ++ [y.b]) hc
        rw [← l2] at ex2 ej2
        obtain ⟨c', hc', rfl⟩ := tp_at ex2
        obtain ⟨O7, hq7⟩ := tp_app (rest := []) O6 hc' y.a
        obtain ⟨l3, l4⟩ := lc_set (y := c'.2 ++ [y.a]) hc'
        have eD : lrefs (ps'.set j (c.1, c.2 ++ [y.b])) = lrefs ps' := by
          have := congrArg (List.map V.ref) l1
          rw [List.map_map, List.map_map] at this
          exact this
        have eD2 : lrefs ((ps'.set j (c.1, c.2 ++ [y.b])).set j2 (c'.1, c'.2 ++ [y.a])) = lrefs (ps'.set j (c.1, c.2 ++ [y.b])) := by
          have := congrArg (List.map V.ref) l3
          rw [List.map_map, List.map_map] at this
          exact this
        have i2 : atI (lrefs ps') y.b = some (.ref c'.1) := by
          rw [← eD]
          exact tp_ix ej2 hc'
        refine ⟨_, _, rfl, SqTF O5.s h6, rfl, _, _, rfl, _, _, rfl, _, _, rfl, rfl, _, rfl, _, rfl, _, _, _, _, rfl, rfl, SqL.of (O5.at 0 rfl), tp_ix ej hc, .inl ⟨rfl, _, SqL.of hq6⟩, _, rfl, _, _, _, rfl, rfl, hq6, by rw [List.length_map]; exact cl, ?_⟩
        refine ⟨_, rfl, _, rfl, _, _, _, _, rfl, rfl, SqL.of (O6.at 0 rfl), i2, .inl ⟨rfl, _, SqL.of hq7⟩, _, rfl, _, _, _, rfl, rfl, hq7, by rw [List.length_map]; exact cl2, ?_⟩
        refine ⟨_, _, _, _, rfl, by rw [eD2, eD]; exact O7, by rw [List.length_set, List.length_set]; exact hl5, ?_⟩
        rw [l4, l2]
        exact hk
      · rintro σ H5 ⟨ps', t3, t4, t5, rfl, O5, hl5, hL5⟩
        rw [drop_end hl4.len] at hL5
        have hk := hLd _ hL5
        refine ⟨_, rfl, _, rfl, ⟨_, SqL.of (O5.at 0 rfl)⟩, fun D2 hD2 => ?_⟩
        have b1 := c1.2
        refine lc_list (K := K) (xs := lrefs ps') (fun i H => ∃ qs : List LC, Ow _ F4 ((D2, .lst (lrefs qs)) :: (qs.map lcell ++ ((D, .lst (lrefs ps')) :: ps'.map lcell))) H ∧ qs.map (·.2) = ((ps'.map (·.2)).take i).map sortT)
          ⟨[], O5.new hD2, by simp⟩ (fun i_ H_ _ hp_ => ?_) ?_ ?_
        · obtain ⟨qs, hO_, _⟩ := hp_
          exact SqL.of (hO_.ch (D, _) (List.mem_cons_of_mem _ (List.mem_append_right _ List.mem_cons_self)))
        · rintro i x H6 hi ⟨qs, O6, e6⟩
          obtain ⟨c, hc, rfl⟩ : ∃ c, ps'[i]? = some c ∧ x = V.ref c.1 := by
            have hi : (ps'.map fun (c : LC) => V.ref c.1)[i]? = some x := hi
            rw [List.getElem?_map] at hi
            cases e : ps'[i]? with
            | none => rw [e] at hi; cases hi
            | some c => rw [e] at hi; exact ⟨c, rfl, (Option.some.inj hi).symm⟩
          have hm : lcell c ∈ ps'.map lcell := List.mem_map.mpr ⟨c, List.mem_of_getElem? hc, rfl⟩
          have hq := O6.ch (lcell c) (List.mem_cons_of_mem _ (List.mem_append_right _ (List.mem_cons_of_mem _ hm)))
          have hil := (List.getElem?_eq_some_iff.mp hc).1
          have hql : qs.length ≤ i := by
            have := congrArg List.length e6
            simp at this
            omega
          have es : sortV (c.2.map V.int) c.2 = (sortT c.2).map V.int := (RL.sorted (H := F) RL.of_ints).ints
          refine ⟨rfl, _, rfl, _, _, c.2, rfl, hq, RL.of_ints, fun p hp => ?_⟩
          have O7 := O6.new (o := .lst (sortV (c.2.map V.int) c.2)) hp
          refine ⟨_, O7.at 1 rfl, lt_line (by rw [List.length_map]; omega), qs ++ [(p, sortT c.2)], ?_, ?_⟩
          · have O8 := O7.set 1 (.lst (lrefs qs ++ [V.ref p])) rfl
            have ea : lrefs (qs ++ [(p, sortT c.2)]) = lrefs qs ++ [V.ref p] := List.map_append
            rw [ea, List.map_append]
            refine O8.perm ?_
            rw [es]
            show ((p, HO.lst _) :: (D2, _) :: (qs.map lcell ++ _)).Perm ((D2, _) :: (qs.map lcell ++ [(p, HO.lst _)] ++ _))
            refine (List.Perm.swap _ _ _).trans (List.Perm.cons _ ?_)
            rw [List.append_assoc]
            exact List.perm_middle.symm
          · rw [List.map_append, e6]
            have e7 : (ps'.map (·.2))[i]? = some c.2 := by rw [List.getElem?_map, hc]; rfl
            rw [List.take_succ, e7, List.map_append]
            rfl
        · rintro H6 ⟨qs, O6, e6⟩
          have el : (lrefs ps').length = (ps'.map (·.2)).length := by rw [List.length_map, List.length_map]
          rw [el, List.take_length] at e6
          have hsub : ∀ c ∈ qs, lcell c ∈ (D2, HO.lst (lrefs qs)) :: (qs.map lcell ++ ((D, .lst (lrefs ps')) :: ps'.map lcell)) := fun c hc => List.mem_cons_of_mem _ (List.mem_append_left _ (List.mem_map.mpr ⟨c, hc, rfl⟩))
          have nas : ∀ b : Addr, ¬ b ∈ ([] : List Addr) := fun b h => nomatch h
          refine hk F4 H6 D2 qs O6.g ⟨O5.was hD2, O6.cf _ List.mem_cons_self, O6.ch _ List.mem_cons_self, fun c hc => (O6.ca _ (hsub c hc)).resolve_left (nas _), fun c hc => O6.cf _ (hsub c hc), fun c hc => O6.ch _ (hsub c hc), ?_⟩ e6
          have n := O6.nd
          rw [List.map_cons, List.map_append, List.nodup_cons, List.nodup_append] at n
          rw [List.nodup_cons]
          have em : (qs.map lcell).map (·.1) = qs.map (·.1) := by
            rw [List.map_map]
            rfl
          rw [em] at n
          exact ⟨fun h => n.1 (List.mem_append_left _ h), n.2.1⟩
theorem ok_tied_places (nb : Nb mg) (D : Df K mg "tied_places" "tied_places" s_tied_places ["many", "ties"]) : Ca P w K mg base "tied_places" 1 ["many", "ties"] (sp_tied_places mg) := by
  refine FnOk.impC (ok_tied_places_own nb D) fun vs H Q E h => ?_
  obtain ⟨F, x_many, v_ties, x_ties, rfl, P0, f_ties, hk⟩ := h
  refine ⟨F, x_many, v_ties, x_ties, rfl, P0, f_ties, wp_mono hk fun r k F' H' p ps g L e => ?_⟩
  obtain ⟨F2, g2, n2, rl⟩ := L.frz g
  rw [e] at rl
  exact k F2 H' g2 p _ L.pn n2 L.ph rl

abbrev s_need_place : Stmt := top 5
theorem sc_need_place : FnScope ["tree", "place"] ["tree", "place"] (defScope s_need_place) := ⟨rfl, rfl, rfl, by decide +kernel, rfl, by decide +kernel, by decide +kernel⟩
def m_need_place (x_tree : ((List Int) × (List (T3 Int Int Int)))) (x_place : Int) : M (Unit) :=
if (0 : Int) ≤ x_place then (
if x_place < (x_tree.1.length : Int) then (
.ok ())
else (
raise "NoPlace"))
else (
raise "NoPlace")
def sp_need_place (mg : Str → Option Value) : Sp := fun vs H Q E => ∃ (F : Hp) (v_tree : V) (x_tree : ((List Int) × (List (T3 Int Int Int)))) (x_place : Int), vs = [v_tree, V.int x_place] ∧ Pre F [] H ∧ R (a := ((List Int) × (List (T3 Int Int Int)))) F v_tree x_tree ∧
  wp (m_need_place x_tree x_place) (fun r => ∀ (F' H' : Hp), Gr [] F H F' H' → Q .non H')
  (fun n => ∀ (C : Addr) (H' : Hp), mg (Str.ofString n) = some (.ref C) → Kp [] H H' → E (.ref C) none H')
set_option maxHeartbeats 2000000 in
theorem ok_need_place (nb : Nb mg) (E_NoPlace : ∃ C, Xc K mg "NoPlace" C) (D : Df K mg "need_place" "need_place" s_need_place ["tree", "place"]) : Ca P w K mg base "need_place" 1 ["tree", "place"] (sp_need_place mg) := by
  obtain ⟨XC_NoPlace, X_NoPlace⟩ := E_NoPlace
  refine Ca.mk' D sc_need_place (fun vs H Q E h => ?_) (fun q_ f_ cdv A outer s H vs Q E hr h => ?_)
  · obtain ⟨F, _, _, _, rfl, _⟩ := h
    rfl
  · obtain ⟨F, v_tree, x_tree, x_place, rfl, P0, f_tree, hk⟩ := h
    have nd := sc_need_place.nd
    have hu64 := hr.units
    have hu128 := hu128_of hr
    have O := P0.start
    refine ⟨_, (pss_one (ps_if (pt_not (pt_chain op_le op_lt pe_int (pv 1) (pe_callB call_lenT (by rfl) nb.b_len PySem.boot_len (pa_cons (pe_ix (ixTupK (K := K) rfl) (pv 0) pe_int (fun _ _ => rfl)) pa_nil)))) (pss_one (ps_raise rfl (takes_of rfl rfl rfl rfl) (pmk_own PySem.F.excBase_ValueError X_NoPlace.x X_NoPlace.g X_NoPlace.k (raises_own X_NoPlace.b X_NoPlace.t) rfl))) pss_nil)), ?_⟩
    refine ⟨_, rfl, _, _, rfl, rfl, _, rfl, ?_⟩
    refine iteD (fun q1 => ?_) (fun q1 => ?_)
    · have hk := wp_if hk q1
      obtain ⟨p2, v5, v6, e3, h4, r7, r8⟩ := R.t2_ f_tree
      cases e3
      obtain ⟨p9, w10, e11, h12, hl13⟩ := R.lst_ r7
      cases e11
      refine ⟨_, rfl, _, _, _, _, rfl, rfl, (SqTF O.s h4), rfl, _, _, _, rfl, (.inl (O.s _ _ h12)), hl13.len, _, _, rfl, rfl, _, rfl, ?_⟩
      refine iteN (fun q14 => ?_) (fun q14 => ?_)
      · have hk := wp_if hk q14
        exact hk _ _  O.g 
      · have hk := wp_el hk q14
        exact hk _ _ X_NoPlace.g O.kp
    · have hk := wp_el hk q1
      refine ⟨_, rfl, ?_⟩
      refine iteNF ?_
      exact hk _ _ X_NoPlace.g O.kp
abbrev s_lengths_of : Stmt := top 6
theorem sc_lengths_of : FnScope ["tree", "found", "a", "b", "length"] ["tree"] (defScope s_lengths_of) := ⟨rfl, rfl, rfl, by decide +kernel, rfl, by decide +kernel, by decide +kernel⟩
def m_lengths_of (x_tree : ((List Int) × (List (T3 Int Int Int)))) : M ((List ((Int × Int) × Int))) :=
loopN (fun (y19 : (T3 Int Int Int)) (st30 : (List ((Int × Int) × Int))) =>
putD st30 ((y19.a, y19.b).1, (y19.a, y19.b).2) y19.c >>= fun z64 =>
putD z64 ((y19.b, y19.a).1, (y19.b, y19.a).2) y19.c >>= fun z82 =>
.ok z82) x_tree.2 ([] : (List ((Int × Int) × Int))) >>= fun st88 =>
.ok st88
def sp_lengths_of (mg : Str → Option Value) : Sp := fun vs H Q E => ∃ (F : Hp) (v_tree : V) (x_tree : ((List Int) × (List (T3 Int Int Int)))), vs = [v_tree] ∧ Pre F [] H ∧ R (a := ((List Int) × (List (T3 Int Int Int)))) F v_tree x_tree ∧
  wp (m_lengths_of x_tree) (fun r => ∀ (F' H' : Hp), Gr [] F H F' H' → ∀ v : V, RDv (κ := (Int × Int)) (β := Int) F' v r → Q v H')
  (fun n => ∀ (C : Addr) (H' : Hp), mg (Str.ofString n) = some (.ref C) → Kp [] H H' → E (.ref C) none H')
set_option maxHeartbeats 2000000 in
theorem ok_lengths_of (nb : Nb mg) (D : Df K mg "lengths_of" "lengths_of" s_lengths_of ["tree"]) : Ca P w K mg base "lengths_of" 1 ["tree"] (sp_lengths_of mg) := by
  refine Ca.mk' D sc_lengths_of (fun vs H Q E h => ?_) (fun q_ f_ cdv A outer s H vs Q E hr h => ?_)
  · obtain ⟨F, _, _, rfl, _⟩ := h
    rfl
  · obtain ⟨F, v_tree, x_tree, rfl, P0, f_tree, hk⟩ := h
    have nd := sc_lengths_of.nd
    have hu64 := hr.units
    have hu128 := hu128_of hr
    have O := P0.start
    refine ⟨_, (pss_cons (ps_set (i := 1) nd rfl (Or.inl rfl) pe_dnewT)
  (pss_cons (ps_for (passes_of rfl) rfl (pi_list (pe_ix (ixTupK (K := K) rfl) (pv 0) pe_int (fun _ _ => rfl))) (pg_tup rfl (pgs_cons (pg_name (i := 2) nd rfl (Or.inl rfl)) (pgs_cons (pg_name (i := 3) nd rfl (Or.inl rfl)) (pgs_cons (pg_name (i := 4) nd rfl (Or.inl rfl)) pgs_nil)))) (pss_cons (ps_dput (u1_of hu64) (pv 1) (pe_tup (pa_cons (pv 2) (pa_cons (pv 3) pa_nil))) (pv 4) rfl)
  (pss_one (ps_dput (u1_of hu64) (pv 1) (pe_tup (pa_cons (pv 3) (pa_cons (pv 2) pa_nil))) (pv 4) rfl))))
  (pss_one (ps_ret (pv 1))))), ?_⟩
    refine fun p2 hp3 => ?_
    have hl5 : RD (κ := (Int × Int)) (β := Int) F [] ([] : (List ((Int × Int) × Int))) := RD.nil
    have z6 := O.was hp3
    have O4 := O.new (o := .dT []) hp3
    obtain ⟨p7, v10, v11, e8, h9, r12, r13⟩ := R.t2_ f_tree
    cases e8
    obtain ⟨p14, w15, e16, h17, hl18⟩ := R.lst_ r13
    cases e16
    obtain ⟨L20, hL21, hLs22, hLd23⟩ := loopN_L hk
    refine ⟨_, rfl, _, _, _, _, rfl, rfl, (SqTF O4.s h9), rfl, _, rfl, ⟨_, (SqLF O4.s h17)⟩, ?_⟩
    refine for_list (K := K) (xs := w15) (fun i σ H => ∃ (F_ : Hp) (st : (List ((Int × Int) × Int))) (w_0 : (List (List Key × V))) (t_0 : Option V) (t_1 : Option V) (t_2 : Option V), σ = [some (V.ref p7), some (V.ref p2), t_0, t_1, t_2] ∧ Same F F_ ∧ Ow _ F_ [(p2, .dT w_0)] H ∧ RD (κ := (Int × Int)) (β := Int) F_ w_0 st ∧ L20 (List.drop i x_tree.2) st) ⟨F, ([] : (List ((Int × Int) × Int))), [], none, none, none, rfl, Same.refl _, O4, hl5, hL21⟩ (fun i_ σ_ H_ _ hp_ => ?_) ?_ ?_
    · obtain ⟨_, _, _, _, _, _, _, hS_, hO_, _⟩ := hp_
      exact SqLF hO_.s (hS_ _ _ h17)
    · rintro i24 x25 sg26 H27 hi28 ⟨F36, st30, w31, t33, t34, t35, rfl, S29, O37, hl32, hL21⟩
      have f_tree := f_tree.mono S29
      have h9 := S29 _ _ h9
      have r12 := r12.mono S29
      have r13 := r13.mono S29
      have h17 := S29 _ _ h17
      have hl18 := hl18.mono S29
      obtain ⟨y19, e38, r39⟩ := RL.got hl18 hi28
      rw [drop_at e38] at hL21
      have hk := hLs22 _ _ _ hL21
      obtain ⟨p40, v43, v44, v45, e41, h42, r46, r47, r48⟩ := R.t3_ r39
      cases e41
      obtain rfl := R.int_ r46
      obtain rfl := R.int_ r47
      obtain rfl := R.int_ r48
      refine ⟨_, _, rfl, (SqTF O37.s h42), rfl, _, _, rfl, _, _, rfl, _, _, rfl, rfl, _, rfl, _, rfl, _, rfl, _, rfl, (by show 2 ≤ sizeLine; decide), fun p49 hp50 => ?_⟩
      obtain ⟨F51, O52, S53, h54⟩ := O37.putE hp50 (.tup [V.int y19.a, V.int y19.b])
      have f_tree := f_tree.mono S53
      have h9 := S53 _ _ h9
      have r12 := r12.mono S53
      have r13 := r13.mono S53
      have h17 := S53 _ _ h17
      have hl18 := hl18.mono S53
      have hl32 := hl32.mono S53
      have S29 := S29.trans S53
      have r39 := r39.mono S53
      have h42 := S53 _ _ h42
      have h55 : R (a := (Int × Int)) F51 (.ref p49) (y19.a, y19.b) := R.t2 h54 R.int R.int
      obtain ⟨p56, v59, v60, e57, h58, r61, r62⟩ := R.t2_ h55
      cases e57
      obtain rfl := R.int_ r61
      obtain rfl := R.int_ r62
      obtain ⟨c63, hk⟩ := wp_putD hk
      refine ⟨_, _, rfl, (dput_T (v := (V.int y19.c)) (O52.at 0 rfl) (O52.s _ _ h58) (by rw [RD.len hl32]; exact c63)), ?_⟩
      have O65 := O52.set 0 (.dT (putK w31 (DK.kk ((y19.a, y19.b).1, (y19.a, y19.b).2)) (V.int y19.c))) rfl
      have hl66 : RD (κ := (Int × Int)) (β := Int) F51 (putK w31 (DK.kk ((y19.a, y19.b).1, (y19.a, y19.b).2)) (V.int y19.c)) (dPut st30 ((y19.a, y19.b).1, (y19.a, y19.b).2) y19.c) := RD.put hl32 ((y19.a, y19.b).1, (y19.a, y19.b).2) R.int
      refine ⟨_, rfl, _, rfl, _, rfl, _, rfl, (by show 2 ≤ sizeLine; decide), fun p67 hp68 => ?_⟩
      obtain ⟨F69, O70, S71, h72⟩ := O65.putE hp68 (.tup [V.int y19.b, V.int y19.a])
      have f_tree := f_tree.mono S71
      have h9 := S71 _ _ h9
      have r12 := r12.mono S71
      have r13 := r13.mono S71
      have h17 := S71 _ _ h17
      have hl18 := hl18.mono S71
      have S29 := S29.trans S71
      have r39 := r39.mono S71
      have h42 := S71 _ _ h42
      have h55 := h55.mono S71
      have h58 := S71 _ _ h58
      have hl66 := hl66.mono S71
      have h73 : R (a := (Int × Int)) F69 (.ref p67) (y19.b, y19.a) := R.t2 h72 R.int R.int
      obtain ⟨p74, v77, v78, e75, h76, r79, r80⟩ := R.t2_ h73
      cases e75
      obtain rfl := R.int_ r79
      obtain rfl := R.int_ r80
      obtain ⟨c81, hk⟩ := wp_putD hk
      refine ⟨_, _, rfl, (dput_T (v := (V.int y19.c)) (O70.at 0 rfl) (O70.s _ _ h76) (by rw [RD.len hl66]; exact c81)), ?_⟩
      have O83 := O70.set 0 (.dT (putK (putK w31 (DK.kk ((y19.a, y19.b).1, (y19.a, y19.b).2)) (V.int y19.c)) (DK.kk ((y19.b, y19.a).1, (y19.b, y19.a).2)) (V.int y19.c))) rfl
      have hl84 : RD (κ := (Int × Int)) (β := Int) F69 (putK (putK w31 (DK.kk ((y19.a, y19.b).1, (y19.a, y19.b).2)) (V.int y19.c)) (DK.kk ((y19.b, y19.a).1, (y19.b, y19.a).2)) (V.int y19.c)) (dPut (dPut st30 ((y19.a, y19.b).1, (y19.a, y19.b).2) y19.c) ((y19.b, y19.a).1, (y19.b, y19.a).2) y19.c) := RD.put hl66 ((y19.b, y19.a).1, (y19.b, y19.a).2) R.int
      exact ⟨F69, (dPut (dPut st30 ((y19.a, y19.b).1, (y19.a, y19.b).2) y19.c) ((y19.b, y19.a).1, (y19.b, y19.a).2) y19.c), (putK (putK w31 (DK.kk ((y19.a, y19.b).1, (y19.a, y19.b).2)) (V.int y19.c)) (DK.kk ((y19.b, y19.a).1, (y19.b, y19.a).2)) (V.int y19.c)), some (V.int y19.a), some (V.int y19.b), some (V.int y19.c), rfl, S29, O83, hl84, hk⟩
    rintro sg85 H86 ⟨F95, st88, w90, t92, t93, t94, rfl, S87, O96, hl91, hL89⟩
    rw [drop_end hl18.len] at hL89
    have hk := hLd23 _ hL89
    have f_tree := f_tree.mono S87
    have h9 := S87 _ _ h9
    have r12 := r12.mono S87
    have r13 := r13.mono S87
    have h17 := S87 _ _ h17
    have hl18 := hl18.mono S87
    obtain ⟨F97, O98, S99, h100⟩ := O96.frzE 0 rfl z6
    have f_tree := f_tree.mono S99
    have h9 := S99 _ _ h9
    have r12 := r12.mono S99
    have r13 := r13.mono S99
    have h17 := S99 _ _ h17
    have hl18 := hl18.mono S99
    have hl91 := hl91.mono S99
    have h101 := RDv.mk (κ := (Int × Int)) (β := Int) h100 hl91
    refine ⟨_, rfl, ?_⟩
    exact hk _ _  O98.g  _ h101
abbrev s_way_between : Stmt := top 7
theorem sc_way_between : FnScope ["tree", "one", "other", "near", "lengths", "behind", "pile", "found", "length", "here", "place"] ["tree", "one", "other"] (defScope s_way_between) := ⟨rfl, rfl, rfl, by decide +kernel, rfl, by decide +kernel, by decide +kernel⟩
def m_way_between (x_tree : ((List Int) × (List (T3 Int Int Int)))) (x_one : Int) (x_other : Int) : M (((List Int) × Int)) :=
m_need_place x_tree x_one >>= fun r1 =>
m_need_place x_tree x_other >>= fun r7 =>
m_tied_places (x_tree.1.length : Int) x_tree.2 >>= fun r25 =>
m_lengths_of x_tree >>= fun r44 =>
whL (r := Unit) (fun (st76 : (List Int) × (List (Int × (Option Int)))) =>
if st76.1 ≠ ([] : List Int) then (
popL st76.1 >>= fun (y95, _) =>
opt (atI r25 y95) >>= fun y107 =>
loopN (fun (y117 : Int) (st128 : (List (Int × (Option Int))) × (List Int)) =>
if dHas st128.1 y117 = true then (
.ok (st128.1, st128.2))
else (
putD st128.1 y117 (some y95) >>= fun z143 =>
appL st128.2 y117 >>= fun _ =>
.ok (z143, (st128.2 ++ [y117])))) y107 (st76.2, st76.1.dropLast) >>= fun st153 =>
.ok (.go (st153.2, st153.1)))
else (
.ok (.stop (st76.1, st76.2)))) 1000000 ([x_other], (mergeD [(x_other, (none : (Option Int)))])) >>= fun f175 => match f175 with
| .rt _ => bad
| .nx st165 =>
whL (r := Unit) (fun (st192 : Int × (List Int)) =>
opt (atI st192.2 (-(1 : Int))) >>= fun y198 =>
if y198 ≠ x_other then (
opt (atI st192.2 (-(1 : Int))) >>= fun y204 =>
opt (atI st192.2 (-(1 : Int))) >>= fun y209 =>
opt (dGet st165.2 y209) >>= fun y214 =>
opt y214 >>= fun y219 =>
opt (dGet r44 (y204, y219)) >>= fun y234 =>
opt (atI st192.2 (-(1 : Int))) >>= fun y246 =>
opt (dGet st165.2 y246) >>= fun y251 =>
opt y251 >>= fun y256 =>
appL st192.2 y256 >>= fun _ =>
.ok (.go ((st192.1 + y234), (st192.2 ++ [y256]))))
else (
.ok (.stop (st192.1, st192.2)))) 1000000 ((0 : Int), [x_one]) >>= fun f272 => match f272 with
| .rt _ => bad
| .nx st266 =>
.ok (st266.2, st266.1)
def sp_way_between (mg : Str → Option Value) : Sp := fun vs H Q E => ∃ (F : Hp) (v_tree : V) (x_tree : ((List Int) × (List (T3 Int Int Int)))) (x_one : Int) (x_other : Int), vs = [v_tree, V.int x_one, V.int x_other] ∧ Pre F [] H ∧ R (a := ((List Int) × (List (T3 Int Int Int)))) F v_tree x_tree ∧
  wp (m_way_between x_tree x_one x_other) (fun r => ∀ (F' H' : Hp), Gr [] F H F' H' → ∀ (p : Addr) (q0 : Addr) (v0 : (List V)), H q0 = none → F' q0 = none → H' q0 = some (.lst v0) → RL (a := Int) F' v0 r.1 → F' p = some (.tup [.ref q0, V.int r.2]) → Q (.ref p) H')
  (fun n => ∀ (C : Addr) (H' : Hp), mg (Str.ofString n) = some (.ref C) → Kp [] H H' → E (.ref C) none H')
set_option maxHeartbeats 2000000 in
theorem ok_way_between (nb : Nb mg) (C_lengths_of : Ca P w K mg base "lengths_of" 1 ["tree"] (sp_lengths_of mg)) (C_need_place : Ca P w K mg base "need_place" 1 ["tree", "place"] (sp_need_place mg)) (C_tied_places : Ca P w K mg base "tied_places" 1 ["many", "ties"] (sp_tied_places mg)) (D : Df K mg "way_between" "way_between" s_way_between ["tree", "one", "other"]) : Ca P w K mg base "way_between" 2 ["tree", "one", "other"] (sp_way_between mg) := by
  obtain ⟨fa_lengths_of, fd_lengths_of, G_lengths_of, M_lengths_of, K_lengths_of, B_lengths_of⟩ := C_lengths_of.ex
  obtain ⟨fa_need_place, fd_need_place, G_need_place, M_need_place, K_need_place, B_need_place⟩ := C_need_place.ex
  obtain ⟨fa_tied_places, fd_tied_places, G_tied_places, M_tied_places, K_tied_places, B_tied_places⟩ := C_tied_places.ex
  refine Ca.mk' D sc_way_between (fun vs H Q E h => ?_) (fun q_ f_ cdv A outer s H vs Q E hr h => ?_)
  · obtain ⟨F, _, _, _, _, rfl, _⟩ := h
    rfl
  · obtain ⟨F, v_tree, x_tree, x_one, x_other, rfl, P0, f_tree, hk⟩ := h
    have nd := sc_way_between.nd
    have hu64 := hr.units
    have hu128 := hu128_of hr
    have O := P0.start
    refine ⟨_, (pss_cons (ps_expr (pe_call G_need_place (hr.mono (by decide)) rfl M_need_place K_need_place B_need_place .nil (passes_call (takes_of rfl rfl rfl rfl) fun _ _ _ _ h => h) (pa_cons (pv 0) (pa_cons (pv 1) pa_nil))))
  (pss_cons (ps_expr (pe_call G_need_place (hr.mono (by decide)) rfl M_need_place K_need_place B_need_place .nil (passes_call (takes_of rfl rfl rfl rfl) fun _ _ _ _ h => h) (pa_cons (pv 0) (pa_cons (pv 2) pa_nil))))
  (pss_cons (ps_set (i := 3) nd rfl (Or.inl rfl) (pe_call G_tied_places (hr.mono (by decide)) rfl M_tied_places K_tied_places B_tied_places .nil (passes_call (takes_of rfl rfl rfl rfl) fun _ _ _ _ h => h) (pa_cons (pe_callB call_lenT (by rfl) nb.b_len PySem.boot_len (pa_cons (pe_ix (ixTupK (K := K) rfl) (pv 0) pe_int (fun _ _ => rfl)) pa_nil)) (pa_cons (pe_ix (ixTupK (K := K) rfl) (pv 0) pe_int (fun _ _ => rfl)) pa_nil))))
  (pss_cons (ps_set (i := 4) nd rfl (Or.inl rfl) (pe_call G_lengths_of (hr.mono (by decide)) rfl M_lengths_of K_lengths_of B_lengths_of .nil (passes_call (takes_of rfl rfl rfl rfl) fun _ _ _ _ h => h) (pa_cons (pv 0) pa_nil)))
  (pss_cons (ps_set (i := 5) nd rfl (Or.inl rfl) (pe_disp (pps_cons (pv 2) pe_non pps_nil) rfl rfl (fun h => nomatch h) (by show 1 ≤ 15; decide)))
  (pss_cons (ps_set (i := 6) nd rfl (Or.inl rfl) (pe_lst (pa_cons (pv 2) pa_nil)))
  (pss_cons (ps_while (passes_of rfl) (pt_cmpR (op_neT (List Int) hu64) (pv 6) (pe_lst pa_nil) (nomark _)) (pss_cons (ps_set (i := 9) nd rfl (Or.inl rfl) (pe_bm0 PySem.F.plainAttrs_list PySem.F.slot_list_pop PySem.F.type_list_pop mt_pop (pv 6)))
  (pss_one (ps_for (passes_of rfl) rfl (pi_list (pe_ix (ixListK (K := K) rfl) (pv 3) (pv 9) (fun _ _ => rfl))) (pg_name (i := 10) nd rfl (Or.inl rfl)) (pss_one (ps_if (pt_cmp (pc_dnotin (u1_of hu64) (pv 10) (pv 5))) (pss_cons (ps_dput (u1_of hu64) (pv 5) (pv 10) (pv 9) rfl)
  (pss_one (ps_expr (pe_bm PySem.F.plainAttrs_list PySem.F.slot_list_append PySem.F.type_list_append mt_append (pv 6) (pa_cons (pv 10) pa_nil))))) pss_nil))))))
  (pss_cons (ps_set (i := 7) nd rfl (Or.inl rfl) (pe_lst (pa_cons (pv 1) pa_nil)))
  (pss_cons (ps_set (i := 8) nd rfl (Or.inl rfl) pe_int)
  (pss_cons (ps_while (passes_of rfl) (pt_cmpR (op_neT Int hu64) (pe_ix (ixListK (K := K) rfl) (pv 7) (pe_un un_neg pe_int) (fun _ _ => rfl)) (pv 2) (nomark _)) (pss_cons (ps_aug (i := 8) nd rfl (Or.inl rfl) (pe_dget (u1_of hu64) (pv 4) (pe_tup (pa_cons (pe_ix (ixListK (K := K) rfl) (pv 7) (pe_un un_neg pe_int) (fun _ _ => rfl)) (pa_cons (pe_dget (u1_of hu64) (pv 5) (pe_ix (ixListK (K := K) rfl) (pv 7) (pe_un un_neg pe_int) (fun _ _ => rfl)) (fun _ _ => rfl)) pa_nil))) (fun _ _ => rfl)) ip_add)
  (pss_one (ps_expr (pe_bm PySem.F.plainAttrs_list PySem.F.slot_list_append PySem.F.type_list_append mt_append (pv 7) (pa_cons (pe_dget (u1_of hu64) (pv 5) (pe_ix (ixListK (K := K) rfl) (pv 7) (pe_un un_neg pe_int) (fun _ _ => rfl)) (fun _ _ => rfl)) pa_nil))))))
  (pss_one (ps_ret (pe_tup (pa_cons (pv 7) (pa_cons (pv 8) pa_nil))))))))))))))), ?_⟩
    refine ⟨_, rfl, _, rfl, _, _, _, _, rfl, O.pre0, f_tree, wp_call hk (fun r1 er2 hk F3 H4 g5 => ?_) (fun n hn C H1 hC kp => hn C H1 hC (O.kp0 kp))⟩
    have O6 := O.call0 g5
    have S_ := g5.f
    have f_tree := f_tree.mono S_
    refine ⟨_, rfl, _, rfl, _, _, _, _, rfl, O6.pre0, f_tree, wp_call hk (fun r7 er8 hk F9 H10 g11 => ?_) (fun n hn C H1 hC kp => hn C H1 hC (O6.kp0 kp))⟩
    have O12 := O6.call0 g11
    have S_ := g11.f
    have f_tree := f_tree.mono S_
    obtain ⟨p13, v16, v17, e14, h15, r18, r19⟩ := R.t2_ f_tree
    cases e14
    obtain ⟨p20, w21, e22, h23, hl24⟩ := R.lst_ r18
    cases e22
    refine ⟨_, rfl, _, _, _, _, rfl, rfl, (SqTF O12.s h15), rfl, _, _, _, rfl, (.inl (O12.s _ _ h23)), hl24.len, _, rfl, _, _, _, _, rfl, rfl, (SqTF O12.s h15), rfl, _, _, _, _, rfl, O12.pre0, r19, wp_call hk (fun r25 er26 hk F27 H28 g29 p30 w31 hn32 hf33 h34 hl35 => ?_) (fun n hn C H1 hC kp => hn C H1 hC (O12.kp0 kp))⟩
    have O36 := O12.call0 g29
    have S_ := g29.f
    have f_tree := f_tree.mono S_
    have h15 := S_ _ _ h15
    have r18 := r18.mono S_
    have r19 := r19.mono S_
    have h23 := S_ _ _ h23
    have hl24 := hl24.mono S_
    have O37 := O12.got O36 rfl hn32 hf33 h34
    have z38 := O12.was hn32
    obtain ⟨F39, O40, S41, h42⟩ := O37.frzE 0 rfl z38
    have f_tree := f_tree.mono S41
    have h15 := S41 _ _ h15
    have r18 := r18.mono S41
    have r19 := r19.mono S41
    have h23 := S41 _ _ h23
    have hl24 := hl24.mono S41
    have hl35 := hl35.mono S41
    have h43 := R.lst (a := (List Int)) h42 hl35
    refine ⟨_, rfl, _, _, _, rfl, O40.pre0, f_tree, wp_call hk (fun r44 er45 hk F46 H47 g48 v49 r50 => ?_) (fun n hn C H1 hC kp => hn C H1 hC (O40.kp0 kp))⟩
    have O51 := O40.call0 g48
    have S_ := g48.f
    have f_tree := f_tree.mono S_
    have h15 := S_ _ _ h15
    have r18 := r18.mono S_
    have r19 := r19.mono S_
    have h23 := S_ _ _ h23
    have hl24 := hl24.mono S_
    have h43 := h43.mono S_
    refine fun p53 hp54 => ?_
    have hl56 : RD (κ := Int) (β := (Option Int)) F46 [] ([] : (List (Int × (Option Int)))) := RD.nil
    have z57 := O51.was hp54
    have O55 := O51.new (o := .dK []) hp54
    refine ⟨_, rfl, (O55.at 0 rfl), [(DK.kk x_other, V.non)], rfl, (by show 1 ≤ 15; decide), ?_⟩
    have O58 := O55.set 0 (.dK (mergeK [] [(DK.kk x_other, V.non)])) rfl
    have hl59 : RD (κ := Int) (β := (Option Int)) F46 (mergeK [] [(DK.kk x_other, V.non)]) (mergeD [(x_other, (none : (Option Int)))]) := merge_rd (.cons (k := x_other) R.non .nil) .nil
    refine ⟨_, rfl, (by show 1 ≤ sizeLine; decide), fun p61 hp62 => ?_⟩
    have hl64 : RL (a := Int) F46 ([V.int x_other]) ([x_other]) := RL.cons R.int RL.nil
    have z65 := O58.was hp62
    have O63 := O58.new (o := .lst ([V.int x_other])) hp62
    obtain ⟨L66, X67, hL68, hLs69, hLd70⟩ := whL_L hk
    refine while_P (fun n σ H_ => ∃ (F_ : Hp) (st : (List Int) × (List (Int × (Option Int)))) (w_0 : (List V)) (w_1 : (List (Key × V))) (t_0 : Option V) (t_1 : Option V), σ = [some (V.ref p13), some (V.int x_one), some (V.int x_other), some (V.ref p30), some v49, some (V.ref p53), some (V.ref p61), none, none, t_0, t_1] ∧ Same F46 F_ ∧ Ow (⟨[], F, H⟩ : Ent) F_ [(p61, .lst w_0), (p53, .dK w_1)] H_ ∧ RL (a := Int) F_ w_0 st.1 ∧ RD (κ := Int) (β := (Option Int)) F_ w_1 st.2 ∧ L66 n st) (fun σ H_ => ∃ (F_ : Hp) (st : (List Int) × (List (Int × (Option Int)))) (w_0 : (List V)) (w_1 : (List (Key × V))) (t_0 : Option V) (t_1 : Option V), σ = [some (V.ref p13), some (V.int x_one), some (V.int x_other), some (V.ref p30), some v49, some (V.ref p53), some (V.ref p61), none, none, t_0, t_1] ∧ Same F46 F_ ∧ Ow (⟨[], F, H⟩ : Ent) F_ [(p61, .lst w_0), (p53, .dK w_1)] H_ ∧ RL (a := Int) F_ w_0 st.1 ∧ RD (κ := Int) (β := (Option Int)) F_ w_1 st.2 ∧ X67 st) 1000000 ⟨F46, ([x_other], (mergeD [(x_other, (none : (Option Int)))])), [V.int x_other], (mergeK [] [(DK.kk x_other, V.non)]), none, none, rfl, Same.refl _, O63, hl64, hl59, hL68⟩ ?_ ?_
    rotate_left
    · rintro hex71 m72 sg73 H74 ⟨F84, st76, w78, w79, t82, t83, rfl, S75, O85, hl80, hl81, hL77⟩
      have f_tree := f_tree.mono S75
      have h15 := S75 _ _ h15
      have r18 := r18.mono S75
      have r19 := r19.mono S75
      have h23 := S75 _ _ h23
      have hl24 := hl24.mono S75
      have h43 := h43.mono S75
      have r50 := r50.mono S75
      have hk := hLs69 _ _ hL77
      refine ⟨_, rfl, (by show 0 ≤ sizeLine; decide), fun p86 hp87 => ?_⟩
      have hl93 : RL (a := Int) F84 ([]) ([] : List Int) := RL.nil
      obtain ⟨F88, O89, S90, h91⟩ := O85.putE hp87 (.lst ([]))
      have f_tree := f_tree.mono S90
      have h15 := S90 _ _ h15
      have r18 := r18.mono S90
      have r19 := r19.mono S90
      have h23 := S90 _ _ h23
      have hl24 := hl24.mono S90
      have h43 := h43.mono S90
      have r50 := r50.mono S90
      have hl80 := hl80.mono S90
      have hl81 := hl81.mono S90
      have S75 := S75.trans S90
      have hl93 := hl93.mono S90
      have h92 := R.lst (a := Int) h91 hl93
      refine ⟨_, _, (R.lst (a := Int) (O89.at 0 rfl) (hl80.mono O89.s)), (R.mono h92 O89.s), _, rfl, ?_⟩
      refine iteD (fun q94 => ?_) (fun q94 => ?_)
      · have hk := wp_if hk q94
        obtain ⟨y95, e96, hk⟩ := wp_popL hk
        obtain ⟨w97, e98, r99⟩ := RL.last hl80 e96
        refine ⟨_, (fun _ _ h_ => h_), _, rfl, (.inl ⟨rfl, _, SqL.of (O89.at 0 rfl)⟩), _, _, _, rfl, rfl, (O89.at 0 rfl), e98, ?_⟩
        obtain rfl := R.int_ r99
        have O100 := O89.set 0 (.lst (w78.dropLast)) rfl
        have hl101 : RL (a := Int) F88 (w78.dropLast) st76.1.dropLast := RL.dropLast hl80
        obtain ⟨p102, w103, e104, h105, hl106⟩ := R.lst_ h43
        cases e104
        obtain ⟨y107, e108, hk⟩ := wp_opt hk
        obtain ⟨w109, e110, r111⟩ := hl106.atI e108
        obtain ⟨p112, w113, e114, h115, hl116⟩ := R.lst_ r111
        cases e114
        obtain ⟨L118, hL119, hLs120, hLd121⟩ := loopN_L hk
        refine ⟨_, rfl, _, rfl, _, _, _, _, rfl, rfl, (SqLF O100.s h105), e110, _, rfl, ⟨_, (SqLF O100.s h115)⟩, ?_⟩
        refine for_list (K := K) (xs := w113) (fun i σ H => ∃ (F_ : Hp) (st : (List (Int × (Option Int))) × (List Int)) (w_0 : (List (Key × V))) (w_1 : (List V)) (t_0 : Option V), σ = [some (V.ref p13), some (V.int x_one), some (V.int x_other), some (V.ref p30), some v49, some (V.ref p53), some (V.ref p61), none, none, some (V.int y95), t_0] ∧ Same F88 F_ ∧ Ow _ F_ [(p61, .lst w_1), (p53, .dK w_0)] H ∧ RD (κ := Int) (β := (Option Int)) F_ w_0 st.1 ∧ RL (a := Int) F_ w_1 st.2 ∧ L118 (List.drop i y107) st) ⟨F88, (st76.2, st76.1.dropLast), w79, (w78.dropLast), t83, rfl, Same.refl _, O100, hl81, hl101, hL119⟩ (fun i_ σ_ H_ _ hp_ => ?_) ?_ ?_
        · obtain ⟨_, _, _, _, _, _, hS_, hO_, _⟩ := hp_
          exact SqLF hO_.s (hS_ _ _ h115)
        · rintro i122 x123 sg124 H125 hi126 ⟨F134, st128, w129, w130, t133, rfl, S127, O135, hl131, hl132, hL119⟩
          have f_tree := f_tree.mono S127
          have h15 := S127 _ _ h15
          have r18 := r18.mono S127
          have r19 := r19.mono S127
          have h23 := S127 _ _ h23
          have hl24 := hl24.mono S127
          have h43 := h43.mono S127
          have r50 := r50.mono S127
          have S75 := S75.trans S127
          have h92 := h92.mono S127
          have h105 := S127 _ _ h105
          have hl106 := hl106.mono S127
          have r111 := r111.mono S127
          have h115 := S127 _ _ h115
          have hl116 := hl116.mono S127
          obtain ⟨y117, e136, r137⟩ := RL.got hl116 hi126
          rw [drop_at e136] at hL119
          have hk := hLs120 _ _ _ hL119
          obtain rfl := R.int_ r137
          obtain ⟨o138, hg139, ho140⟩ := din_I (O135.at 1 rfl) hl131
          refine ⟨_, rfl, _, rfl, _, _, rfl, hg139, ?_⟩
          rw [ho140]
          refine ⟨_, rfl, ?_⟩
          refine iteBN (fun q141 => ?_) (fun q141 => ?_)
          · have hk := wp_if hk q141
            exact ⟨F134, (st128.1, st128.2), w129, w130, some (V.int y117), rfl, S127, O135, hl131, hl132, hk⟩
          · have hk := wp_el hk q141
            obtain ⟨c142, hk⟩ := wp_putD hk
            refine ⟨_, rfl, _, rfl, _, rfl, _, _, rfl, (dput_I (v := (V.int y95)) (O135.at 1 rfl) (by rw [RD.len hl131]; exact c142)), ?_⟩
            have O144 := O135.set 1 (.dK (putK w129 (DK.kk y117) (V.int y95))) rfl
            have hl145 : RD (κ := Int) (β := (Option Int)) F134 (putK w129 (DK.kk y117) (V.int y95)) (dPut st128.1 y117 (some y95)) := RD.put hl131 y117 (R.jst R.int)
            obtain ⟨c146, hk⟩ := wp_appL hk
            refine ⟨_, rfl, (.inl ⟨rfl, _, SqL.of (O144.at 0 rfl)⟩), _, rfl, _, _, _, rfl, rfl, (O144.at 0 rfl), (by rw [hl132.len]; exact c146), ?_⟩
            have O148 := O144.set 0 (.lst (w130 ++ [V.int y117])) rfl
            have hl149 : RL (a := Int) F134 (w130 ++ [V.int y117]) (st128.2 ++ [y117]) := RL.snoc hl132 R.int
            exact ⟨F134, ((dPut st128.1 y117 (some y95)), (st128.2 ++ [y117])), (putK w129 (DK.kk y117) (V.int y95)), (w130 ++ [V.int y117]), some (V.int y117), rfl, S127, O148, hl145, hl149, hk⟩
        rintro sg150 H151 ⟨F160, st153, w155, w156, t159, rfl, S152, O161, hl157, hl158, hL154⟩
        rw [drop_end hl116.len] at hL154
        have hk := hLd121 _ hL154
        have f_tree := f_tree.mono S152
        have h15 := S152 _ _ h15
        have r18 := r18.mono S152
        have r19 := r19.mono S152
        have h23 := S152 _ _ h23
        have hl24 := hl24.mono S152
        have h43 := h43.mono S152
        have r50 := r50.mono S152
        have S75 := S75.trans S152
        have h92 := h92.mono S152
        have h105 := S152 _ _ h105
        have hl106 := hl106.mono S152
        have r111 := r111.mono S152
        have h115 := S152 _ _ h115
        have hl116 := hl116.mono S152
        obtain ⟨m_, hm_, hk⟩ := hk
        exact ⟨m_, hm_, F160, (st153.2, st153.1), w156, w155, some (V.int y95), t159, rfl, S75, O161, hl158, hl157, hk⟩
      · have hk := wp_el hk q94
        exact hex71 _ _ ⟨F88, (st76.1, st76.2), w78, w79, t82, t83, rfl, S75, O89, hl80, hl81, hk⟩
    rintro sg162 H163 ⟨F173, st165, w167, w168, t171, t172, rfl, S164, O174, hl169, hl170, hL166⟩
    have hk := hLd70 _ hL166
    have f_tree := f_tree.mono S164
    have h15 := S164 _ _ h15
    have r18 := r18.mono S164
    have r19 := r19.mono S164
    have h23 := S164 _ _ h23
    have hl24 := hl24.mono S164
    have h43 := h43.mono S164
    have r50 := r50.mono S164
    refine ⟨_, rfl, (by show 1 ≤ sizeLine; decide), fun p177 hp178 => ?_⟩
    have hl180 : RL (a := Int) F173 ([V.int x_one]) ([x_one]) := RL.cons R.int RL.nil
    have z181 := O174.was hp178
    have O179 := O174.new (o := .lst ([V.int x_one])) hp178
    obtain ⟨L182, X183, hL184, hLs185, hLd186⟩ := whL_L hk
    refine while_P (fun n σ H_ => ∃ (F_ : Hp) (st : Int × (List Int)) (w_0 : (List V)), σ = [some (V.ref p13), some (V.int x_one), some (V.int x_other), some (V.ref p30), some v49, some (V.ref p53), some (V.ref p61), some (V.ref p177), some (V.int st.1), t171, t172] ∧ Same F173 F_ ∧ Ow (⟨[], F, H⟩ : Ent) F_ [(p177, .lst w_0), (p61, .lst w167), (p53, .dK w168)] H_ ∧ RL (a := Int) F_ w_0 st.2 ∧ L182 n st) (fun σ H_ => ∃ (F_ : Hp) (st : Int × (List Int)) (w_0 : (List V)), σ = [some (V.ref p13), some (V.int x_one), some (V.int x_other), some (V.ref p30), some v49, some (V.ref p53), some (V.ref p61), some (V.ref p177), some (V.int st.1), t171, t172] ∧ Same F173 F_ ∧ Ow (⟨[], F, H⟩ : Ent) F_ [(p177, .lst w_0), (p61, .lst w167), (p53, .dK w168)] H_ ∧ RL (a := Int) F_ w_0 st.2 ∧ X183 st) 1000000 ⟨F173, ((0 : Int), [x_one]), [V.int x_one], rfl, Same.refl _, O179, hl180, hL184⟩ ?_ ?_
    rotate_left
    · rintro hex187 m188 sg189 H190 ⟨F196, st192, w194, rfl, S191, O197, hl195, hL193⟩
      have f_tree := f_tree.mono S191
      have h15 := S191 _ _ h15
      have r18 := r18.mono S191
      have r19 := r19.mono S191
      have h23 := S191 _ _ h23
      have hl24 := hl24.mono S191
      have h43 := h43.mono S191
      have r50 := r50.mono S191
      have hl169 := hl169.mono S191
      have hl170 := hl170.mono S191
      have hk := hLs185 _ _ hL193
      obtain ⟨y198, e199, hk⟩ := wp_opt hk
      obtain ⟨w200, e201, r202⟩ := hl195.atI e199
      obtain rfl := R.int_ r202
      refine ⟨_, rfl, _, rfl, _, _, _, _, rfl, rfl, (SqL.of (O197.at 0 rfl)), e201, _, rfl, _, _, R.int, R.int, _, rfl, ?_⟩
      refine iteD (fun q203 => ?_) (fun q203 => ?_)
      · have hk := wp_if hk q203
        obtain ⟨y204, e205, hk⟩ := wp_opt hk
        obtain ⟨w206, e207, r208⟩ := hl195.atI e205
        obtain rfl := R.int_ r208
        obtain ⟨y209, e210, hk⟩ := wp_opt hk
        obtain ⟨w211, e212, r213⟩ := hl195.atI e210
        obtain rfl := R.int_ r213
        obtain ⟨y214, e215, hk⟩ := wp_opt hk
        obtain ⟨w216, e217, r218⟩ := RD.some hl170 (k := y209) e215
        obtain ⟨y219, e220, hk⟩ := wp_opt hk
        have r221 : R (a := Int) F196 w216 y219 := R.jst_ (by rw [← e220]; exact r218)
        obtain rfl := R.int_ r221
        refine ⟨_, (fun _ _ h_ => h_), _, rfl, _, rfl, _, rfl, _, rfl, _, _, _, _, rfl, rfl, (SqL.of (O197.at 0 rfl)), e207, _, rfl, _, rfl, _, rfl, _, _, _, _, rfl, rfl, (SqL.of (O197.at 0 rfl)), e212, _, _, rfl, (dget_I (O197.at 2 rfl) e217), (by show 2 ≤ sizeLine; decide), fun p222 hp223 => ?_⟩
        obtain ⟨F224, O225, S226, h227⟩ := O197.putE hp223 (.tup [V.int y204, V.int y219])
        have f_tree := f_tree.mono S226
        have h15 := S226 _ _ h15
        have r18 := r18.mono S226
        have r19 := r19.mono S226
        have h23 := S226 _ _ h23
        have hl24 := hl24.mono S226
        have h43 := h43.mono S226
        have r50 := r50.mono S226
        have hl169 := hl169.mono S226
        have hl170 := hl170.mono S226
        have hl195 := hl195.mono S226
        have S191 := S191.trans S226
        have r218 := r218.mono S226
        have h228 : R (a := (Int × Int)) F224 (.ref p222) (y204, y219) := R.t2 h227 R.int R.int
        obtain ⟨p229, w230, e231, h232, hl233⟩ := r50
        cases e231
        have h232 : F224 _ = some (.dT w230) := h232
        obtain ⟨p239, v242, v243, e240, h241, r244, r245⟩ := R.t2_ h228
        cases e240
        obtain rfl := R.int_ r244
        obtain rfl := R.int_ r245
        obtain ⟨y234, e235, hk⟩ := wp_opt hk
        obtain ⟨w236, e237, r238⟩ := RD.some hl233 (k := ((y204, y219).1, (y204, y219).2)) e235
        obtain rfl := R.int_ r238
        obtain ⟨y246, e247, hk⟩ := wp_opt hk
        obtain ⟨w248, e249, r250⟩ := hl195.atI e247
        obtain rfl := R.int_ r250
        obtain ⟨y251, e252, hk⟩ := wp_opt hk
        obtain ⟨w253, e254, r255⟩ := RD.some hl170 (k := y246) e252
        obtain ⟨y256, e257, hk⟩ := wp_opt hk
        have r258 : R (a := Int) F224 w253 y256 := R.jst_ (by rw [← e257]; exact r255)
        obtain rfl := R.int_ r258
        obtain ⟨c259, hk⟩ := wp_appL hk
        refine ⟨_, _, rfl, (dget_T (O225.s _ _ h232) (O225.s _ _ h241) e237), _, _, rfl, rfl, _, rfl, (.inl ⟨rfl, _, SqL.of (O225.at 0 rfl)⟩), _, rfl, _, rfl, _, rfl, _, _, _, _, rfl, rfl, (SqL.of (O225.at 0 rfl)), e249, _, _, rfl, (dget_I (O225.at 2 rfl) e254), _, _, _, rfl, rfl, (O225.at 0 rfl), (by rw [hl195.len]; exact c259), ?_⟩
        have O261 := O225.set 0 (.lst (w194 ++ [V.int y256])) rfl
        have hl262 : RL (a := Int) F224 (w194 ++ [V.int y256]) (st192.2 ++ [y256]) := RL.snoc hl195 R.int
        obtain ⟨m_, hm_, hk⟩ := hk
        exact ⟨m_, hm_, F224, ((st192.1 + y234), (st192.2 ++ [y256])), (w194 ++ [V.int y256]), rfl, S191, O261, hl262, hk⟩
      · have hk := wp_el hk q203
        exact hex187 _ _ ⟨F196, (st192.1, st192.2), w194, rfl, S191, O197, hl195, hk⟩
    rintro sg263 H264 ⟨F270, st266, w268, rfl, S265, O271, hl269, hL267⟩
    have hk := hLd186 _ hL267
    have f_tree := f_tree.mono S265
    have h15 := S265 _ _ h15
    have r18 := r18.mono S265
    have r19 := r19.mono S265
    have h23 := S265 _ _ h23
    have hl24 := hl24.mono S265
    have h43 := h43.mono S265
    have r50 := r50.mono S265
    have hl169 := hl169.mono S265
    have hl170 := hl170.mono S265
    refine ⟨_, rfl, _, rfl, (by show 2 ≤ sizeLine; decide), fun p274 hp275 => ?_⟩
    obtain ⟨F276, O277, S278, h279⟩ := O271.putE hp275 (.tup [V.ref p177, V.int st266.1])
    have f_tree := f_tree.mono S278
    have h15 := S278 _ _ h15
    have r18 := r18.mono S278
    have r19 := r19.mono S278
    have h23 := S278 _ _ h23
    have hl24 := hl24.mono S278
    have h43 := h43.mono S278
    have r50 := r50.mono S278
    have hl169 := hl169.mono S278
    have hl170 := hl170.mono S278
    have hl269 := hl269.mono S278
    exact hk _ _  O277.g  _ _ _ z181 (O277.cf _ (List.mem_of_getElem? (i := 0) rfl)) (O277.at 0 rfl) hl269 h279
abbrev s_law_stir : Stmt := top 9
theorem sc_law_stir : FnScope ["cell", "k", "number"] ["cell", "k"] (defScope s_law_stir) := ⟨rfl, rfl, rfl, by decide +kernel, rfl, by decide +kernel, by decide +kernel⟩
def m_law_stir (x_cell : Int) (x_k : Int) : M (Int) :=
chk (0 < ((10 : Int) ^ Int.toNat (40 : Int))) >>= fun _ =>
chk (CMulW (x_cell % ((10 : Int) ^ Int.toNat (40 : Int))) (48271 : Int)) >>= fun _ =>
chk (CMulW ((3 : Int) ^ Int.toNat (60 : Int)) (x_k + (1 : Int))) >>= fun _ =>
chk (CMulW (((3 : Int) ^ Int.toNat (60 : Int)) * (x_k + (1 : Int))) (x_k + (1 : Int))) >>= fun _ =>
ret ((((x_cell % ((10 : Int) ^ Int.toNat (40 : Int))) * (48271 : Int)) + ((((3 : Int) ^ Int.toNat (60 : Int)) * (x_k + (1 : Int))) * (x_k + (1 : Int)))) + x_k) >>= fun n5 =>
chk (CMulW n5 n5) >>= fun _ =>
chk (CMulW (69621 : Int) n5) >>= fun _ =>
ret ((n5 * n5) + ((69621 : Int) * n5)) >>= fun n9 =>
chk (CMulW n9 n9) >>= fun _ =>
chk (0 < (((10 : Int) ^ Int.toNat (61 : Int)) + (7 : Int))) >>= fun _ =>
chk (CDivW ((n9 * n9) % (((10 : Int) ^ Int.toNat (61 : Int)) + (7 : Int))) (8 : Int)) >>= fun _ =>
.ok (((n9 * n9) % (((10 : Int) ^ Int.toNat (61 : Int)) + (7 : Int))) / (8 : Int))
def sp_law_stir (mg : Str → Option Value) : Sp := fun vs H Q E => ∃ (F : Hp) (x_cell : Int) (x_k : Int), vs = [V.int x_cell, V.int x_k] ∧ Pre F [] H ∧
  wp (m_law_stir x_cell x_k) (fun r => ∀ (F' H' : Hp), Gr [] F H F' H' → Q (V.int r) H')
  (fun n => ∀ (C : Addr) (H' : Hp), mg (Str.ofString n) = some (.ref C) → Kp [] H H' → E (.ref C) none H')
set_option maxHeartbeats 2000000 in
theorem ok_law_stir (nb : Nb mg) (D : Df K mg "_law_stir" "_law_stir" s_law_stir ["cell", "k"]) : Ca P w K mg base "_law_stir" 1 ["cell", "k"] (sp_law_stir mg) := by
  refine Ca.mk' D sc_law_stir (fun vs H Q E h => ?_) (fun q_ f_ cdv A outer s H vs Q E hr h => ?_)
  · obtain ⟨F, _, _, rfl, _⟩ := h
    rfl
  · obtain ⟨F, x_cell, x_k, rfl, P0, hk⟩ := h
    have nd := sc_law_stir.nd
    have hu64 := hr.units
    have hu128 := hu128_of hr
    have O := P0.start
    refine ⟨_, (pss_cons (ps_set (i := 2) nd rfl (Or.inl rfl) (pe_op op_add (pe_op op_add (pe_op op_mulW (pe_op op_mod (pv 0) (pe_op op_pow pe_int pe_int)) pe_int) (pe_op op_mulW (pe_op op_mulW (pe_op op_pow pe_int pe_int) (pe_op op_add (pv 1) pe_int)) (pe_op op_add (pv 1) pe_int))) (pv 1)))
  (pss_cons (ps_set (i := 2) nd rfl (Or.inl rfl) (pe_op op_add (pe_op op_mulW (pv 2) (pv 2)) (pe_op op_mulW pe_int (pv 2))))
  (pss_one (ps_ret (pe_op op_fdivW (pe_op op_mod (pe_op op_mulW (pv 2) (pv 2)) (pe_op op_add (pe_op op_pow pe_int pe_int) pe_int)) pe_int))))), ?_⟩
    obtain ⟨c1, hk⟩ := wp_chk hk
    obtain ⟨c2, hk⟩ := wp_chk hk
    obtain ⟨c3, hk⟩ := wp_chk hk
    obtain ⟨c4, hk⟩ := wp_chk hk
    obtain ⟨n5, hn6, hk⟩ := wp_ret hk
    subst hn6
    obtain ⟨c7, hk⟩ := wp_chk hk
    obtain ⟨c8, hk⟩ := wp_chk hk
    obtain ⟨n9, hn10, hk⟩ := wp_ret hk
    subst hn10
    obtain ⟨c11, hk⟩ := wp_chk hk
    obtain ⟨c12, hk⟩ := wp_chk hk
    obtain ⟨c13, hk⟩ := wp_chk hk
    refine ⟨_, rfl, _, _, rfl, rfl, (by decide), _, _, rfl, rfl, c1, _, _, rfl, rfl, c2, _, _, rfl, rfl, (by decide), _, rfl, _, _, rfl, rfl, _, _, rfl, rfl, c3, _, rfl, _, _, rfl, rfl, _, _, rfl, rfl, c4, _, _, rfl, rfl, _, rfl, _, _, rfl, rfl, _, rfl, _, rfl, _, _, rfl, rfl, c7, _, rfl, _, _, rfl, rfl, c8, _, _, rfl, rfl, _, rfl, _, rfl, _, _, rfl, rfl, c11, _, _, rfl, rfl, (by decide), _, _, rfl, rfl, _, _, rfl, rfl, c12, _, _, rfl, rfl, c13, ?_⟩
    exact hk _ _  O.g 
abbrev s_law_deck : Stmt := top 10
theorem sc_law_deck : FnScope ["cell"] ["cell"] (defScope s_law_deck) := ⟨rfl, rfl, rfl, by decide +kernel, rfl, by decide +kernel, by decide +kernel⟩
def m_law_deck (x_cell : Int) : M ((List Int)) :=
if ((10 : Int) ^ Int.toNat (18 : Int)) ≤ x_cell then (
.ok ([(x_cell - ((10 : Int) ^ Int.toNat (18 : Int)))]))
else (
m_law_stir x_cell (1 : Int) >>= fun r9 =>
chk (CMulW r9 ((10 : Int) ^ Int.toNat (60 : Int))) >>= fun _ =>
m_law_stir x_cell (2 : Int) >>= fun r16 =>
chk (CMulW ((r9 * ((10 : Int) ^ Int.toNat (60 : Int))) + r16) ((10 : Int) ^ Int.toNat (60 : Int))) >>= fun _ =>
m_law_stir x_cell (3 : Int) >>= fun r23 =>
.ok ([((((r9 * ((10 : Int) ^ Int.toNat (60 : Int))) + r16) * ((10 : Int) ^ Int.toNat (60 : Int))) + r23)]))
def sp_law_deck (mg : Str → Option Value) : Sp := fun vs H Q E => ∃ (F : Hp) (x_cell : Int), vs = [V.int x_cell] ∧ Pre F [] H ∧
  wp (m_law_deck x_cell) (fun r => ∀ (F' H' : Hp), Gr [] F H F' H' → ∀ (p : Addr) (w : (List V)), H p = none → F' p = none → H' p = some (.lst w) → RL (a := Int) F' w r → Q (.ref p) H')
  (fun n => ∀ (C : Addr) (H' : Hp), mg (Str.ofString n) = some (.ref C) → Kp [] H H' → E (.ref C) none H')
set_option maxHeartbeats 2000000 in
theorem ok_law_deck (nb : Nb mg) (C_law_stir : Ca P w K mg base "_law_stir" 1 ["cell", "k"] (sp_law_stir mg)) (D : Df K mg "_law_deck" "_law_deck" s_law_deck ["cell"]) : Ca P w K mg base "_law_deck" 2 ["cell"] (sp_law_deck mg) := by
  obtain ⟨fa_law_stir, fd_law_stir, G_law_stir, M_law_stir, K_law_stir, B_law_stir⟩ := C_law_stir.ex
  refine Ca.mk' D sc_law_deck (fun vs H Q E h => ?_) (fun q_ f_ cdv A outer s H vs Q E hr h => ?_)
  · obtain ⟨F, _, rfl, _⟩ := h
    rfl
  · obtain ⟨F, x_cell, rfl, P0, hk⟩ := h
    have nd := sc_law_deck.nd
    have hu64 := hr.units
    have hu128 := hu128_of hr
    have O := P0.start
    refine ⟨_, (pss_cons (ps_if (pt_cmpR op_ge (pv 0) (pe_op op_pow pe_int pe_int) (nomark _)) (pss_one (ps_ret (pe_lst (pa_cons (pe_op op_sub (pv 0) (pe_op op_pow pe_int pe_int)) pa_nil)))) pss_nil)
  (pss_one (ps_ret (pe_lst (pa_cons (pe_op op_add (pe_op op_mulW (pe_op op_add (pe_op op_mulW (pe_call G_law_stir (hr.mono (by decide)) rfl M_law_stir K_law_stir B_law_stir .nil (passes_call (takes_of rfl rfl rfl rfl) fun _ _ _ _ h => h) (pa_cons (pv 0) (pa_cons pe_int pa_nil))) (pe_op op_pow pe_int pe_int)) (pe_call G_law_stir (hr.mono (by decide)) rfl M_law_stir K_law_stir B_law_stir .nil (passes_call (takes_of rfl rfl rfl rfl) fun _ _ _ _ h => h) (pa_cons (pv 0) (pa_cons pe_int pa_nil)))) (pe_op op_pow pe_int pe_int)) (pe_call G_law_stir (hr.mono (by decide)) rfl M_law_stir K_law_stir B_law_stir .nil (passes_call (takes_of rfl rfl rfl rfl) fun _ _ _ _ h => h) (pa_cons (pv 0) (pa_cons pe_int pa_nil)))) pa_nil))))), ?_⟩
    refine ⟨_, rfl, _, _, rfl, rfl, (by decide), _, _, rfl, rfl, _, rfl, ?_⟩
    refine iteD (fun q1 => ?_) (fun q1 => ?_)
    · have hk := wp_if hk q1
      refine ⟨_, rfl, _, _, rfl, rfl, (by decide), _, _, rfl, rfl, (by show 1 ≤ sizeLine; decide), fun p3 hp4 => ?_⟩
      have hl6 : RL (a := Int) F ([V.int (x_cell - ((10 : Int) ^ Int.toNat (18 : Int)))]) ([(x_cell - ((10 : Int) ^ Int.toNat (18 : Int)))]) := RL.cons R.int RL.nil
      have z7 := O.was hp4
      have O5 := O.new (o := .lst ([V.int (x_cell - ((10 : Int) ^ Int.toNat (18 : Int)))])) hp4
      exact hk _ _  O5.g  _ _ z7 (O5.cf _ (List.mem_of_getElem? (i := 0) rfl)) (O5.at 0 rfl) hl6
    · have hk := wp_el hk q1
      refine ⟨_, rfl, _, _, _, rfl, O.pre0, wp_call hk (fun r9 er10 hk F11 H12 g13 => ?_) (fun n hn C H1 hC kp => hn C H1 hC (O.kp0 kp))⟩
      have O14 := O.call0 g13
      have S_ := g13.f
      obtain ⟨c15, hk⟩ := wp_chk hk
      refine ⟨_, _, rfl, rfl, (by decide), _, _, rfl, rfl, c15, _, rfl, _, _, _, rfl, O14.pre0, wp_call hk (fun r16 er17 hk F18 H19 g20 => ?_) (fun n hn C H1 hC kp => hn C H1 hC (O14.kp0 kp))⟩
      have O21 := O14.call0 g20
      have S_ := g20.f
      obtain ⟨c22, hk⟩ := wp_chk hk
      refine ⟨_, _, rfl, rfl, _, _, rfl, rfl, (by decide), _, _, rfl, rfl, c22, _, rfl, _, _, _, rfl, O21.pre0, wp_call hk (fun r23 er24 hk F25 H26 g27 => ?_) (fun n hn C H1 hC kp => hn C H1 hC (O21.kp0 kp))⟩
      have O28 := O21.call0 g27
      have S_ := g27.f
      refine ⟨_, _, rfl, rfl, (by show 1 ≤ sizeLine; decide), fun p29 hp30 => ?_⟩
      have hl32 : RL (a := Int) F25 ([V.int ((((r9 * ((10 : Int) ^ Int.toNat (60 : Int))) + r16) * ((10 : Int) ^ Int.toNat (60 : Int))) + r23)]) ([((((r9 * ((10 : Int) ^ Int.toNat (60 : Int))) + r16) * ((10 : Int) ^ Int.toNat (60 : Int))) + r23)]) := RL.cons R.int RL.nil
      have z33 := O28.was hp30
      have O31 := O28.new (o := .lst ([V.int ((((r9 * ((10 : Int) ^ Int.toNat (60 : Int))) + r16) * ((10 : Int) ^ Int.toNat (60 : Int))) + r23)])) hp30
      exact hk _ _  O31.g  _ _ z33 (O31.cf _ (List.mem_of_getElem? (i := 0) rfl)) (O31.at 0 rfl) hl32
abbrev s_law_take : Stmt := top 11
theorem sc_law_take : FnScope ["deck", "many", "taken"] ["deck", "many"] (defScope s_law_take) := ⟨rfl, rfl, rfl, by decide +kernel, rfl, by decide +kernel, by decide +kernel⟩
def m_law_take (x_deck : (List Int)) (x_many : Int) : M (Int × (List Int)) :=
opt (atI x_deck (0 : Int)) >>= fun y1 =>
chk (0 < x_many) >>= fun _ =>
opt (atI x_deck (0 : Int)) >>= fun y7 =>
chk (CDivW y7 x_many) >>= fun _ =>
setI x_deck (0 : Int) (y7 / x_many) >>= fun z15 =>
.ok ((y1 % x_many), z15)
def sp_law_take (mg : Str → Option Value) : Sp := fun vs H Q E => ∃ (F : Hp) (a_deck : Addr) (w_deck : (List V)) (x_deck : (List Int)) (x_many : Int), vs = [.ref a_deck, V.int x_many] ∧ Pre F [(a_deck, .lst w_deck)] H ∧ RL (a := Int) F w_deck x_deck ∧
  wp (m_law_take x_deck x_many) (fun r => ∀ (F' H' : Hp) (w0 : (List V)), Gr [a_deck] F H F' H' → H' a_deck = some (.lst w0) → RL (a := Int) F' w0 r.2 → Q (V.int r.1) H')
  (fun n => ∀ (C : Addr) (H' : Hp), mg (Str.ofString n) = some (.ref C) → Kp [a_deck] H H' → E (.ref C) none H')
set_option maxHeartbeats 2000000 in
theorem ok_law_take (nb : Nb mg) (D : Df K mg "_law_take" "_law_take" s_law_take ["deck", "many"]) : Ca P w K mg base "_law_take" 1 ["deck", "many"] (sp_law_take mg) := by
  refine Ca.mk' D sc_law_take (fun vs H Q E h => ?_) (fun q_ f_ cdv A outer s H vs Q E hr h => ?_)
  · obtain ⟨F, _, _, _, _, rfl, _⟩ := h
    rfl
  · obtain ⟨F, a_deck, w_deck, x_deck, x_many, rfl, P0, f_deck, hk⟩ := h
    have nd := sc_law_take.nd
    have hu64 := hr.units
    have hu128 := hu128_of hr
    have O := P0.start
    refine ⟨_, (pss_cons (ps_set (i := 2) nd rfl (Or.inl rfl) (pe_op op_mod (pe_ix (ixListK (K := K) rfl) (pv 0) pe_int (fun _ _ => rfl)) (pv 1)))
  (pss_cons (ps_asg (pe_op op_fdivW (pe_ix (ixListK (K := K) rfl) (pv 0) pe_int (fun _ _ => rfl)) (pv 1)) (pg_sub (pv 0) pe_int set_list))
  (pss_one (ps_ret (pv 2))))), ?_⟩
    obtain ⟨y1, e2, hk⟩ := wp_opt hk
    obtain ⟨w3, e4, r5⟩ := f_deck.atI e2
    obtain rfl := R.int_ r5
    obtain ⟨c6, hk⟩ := wp_chk hk
    obtain ⟨y7, e8, hk⟩ := wp_opt hk
    obtain ⟨w9, e10, r11⟩ := f_deck.atI e8
    obtain rfl := R.int_ r11
    obtain ⟨c12, hk⟩ := wp_chk hk
    obtain ⟨j13, e14, hk⟩ := wp_setI hk
    refine ⟨_, rfl, _, _, _, _, rfl, rfl, (SqL.of (O.at 0 rfl)), e4, _, rfl, _, _, rfl, rfl, c6, _, rfl, _, _, _, _, rfl, rfl, (SqL.of (O.at 0 rfl)), e10, _, rfl, _, _, rfl, rfl, c12, _, rfl, _, _, _, _, rfl, rfl, (O.at 0 rfl), (by rw [f_deck.len]; exact e14), ?_⟩
    have O16 := O.set 0 (.lst (w_deck.set j13 (V.int (y7 / x_many)))) rfl
    have hl17 : RL (a := Int) F (w_deck.set j13 (V.int (y7 / x_many))) (x_deck.set j13 (y7 / x_many)) := RL.set j13 f_deck R.int
    refine ⟨_, rfl, ?_⟩
    exact hk _ _ (w_deck.set j13 (V.int (y7 / x_many))) O16.g (O16.at 0 rfl) hl17
abbrev s_law_whole : Stmt := top 12
theorem sc_law_whole : FnScope ["found"] ["found"] (defScope s_law_whole) := ⟨rfl, rfl, rfl, by decide +kernel, rfl, by decide +kernel, by decide +kernel⟩
def m_law_whole (x_found : Int) : M (Bool) :=
.ok true
def sp_law_whole (mg : Str → Option Value) : Sp := fun vs H Q E => ∃ (F : Hp) (x_found : Int), vs = [V.int x_found] ∧ Pre F [] H ∧
  wp (m_law_whole x_found) (fun r => ∀ (F' H' : Hp), Gr [] F H F' H' → Q (V.bl r) H')
  (fun n => ∀ (C : Addr) (H' : Hp), mg (Str.ofString n) = some (.ref C) → Kp [] H H' → E (.ref C) none H')
set_option maxHeartbeats 2000000 in
theorem ok_law_whole (nb : Nb mg) (D : Df K mg "_law_whole" "_law_whole" s_law_whole ["found"]) : Ca P w K mg base "_law_whole" 1 ["found"] (sp_law_whole mg) := by
  refine Ca.mk' D sc_law_whole (fun vs H Q E h => ?_) (fun q_ f_ cdv A outer s H vs Q E hr h => ?_)
  · obtain ⟨F, _, rfl, _⟩ := h
    rfl
  · obtain ⟨F, x_found, rfl, P0, hk⟩ := h
    have nd := sc_law_whole.nd
    have hu64 := hr.units
    have hu128 := hu128_of hr
    have O := P0.start
    refine ⟨_, (pss_one (ps_ret (pe_and (pe_callB (isiK (K := K) rfl) (by rfl) nb.b_isinstance (by decide +kernel) (pa_cons (pv 0) (pa_cons (pe_bltn (v := .ty "int") (by rfl) nb.b_int (by decide +kernel) rfl) pa_nil))) (pe_one (pe_not (pe_callB (isiK (K := K) rfl) (by rfl) nb.b_isinstance (by decide +kernel) (pa_cons (pv 0) (pa_cons (pe_bltn (v := .ty "bool") (by rfl) nb.b_bool (by decide +kernel) rfl) pa_nil)))))))), ?_⟩
    refine ⟨_, rfl, _, _, _, _, true, rfl, .ty _, (.base (.int _)), kit_ty (by decide +kernel), _, rfl, ?_⟩
    refine iteT ?_
    refine ⟨_, rfl, _, _, _, _, false, rfl, .ty _, (.base (.int _)), kit_ty (by decide +kernel), _, rfl, ?_⟩
    exact hk _ _  O.g 
abbrev s_law_are_whole : Stmt := top 13
theorem sc_law_are_whole : FnScope ["found", "one"] ["found"] (defScope s_law_are_whole) := ⟨rfl, rfl, rfl, by decide +kernel, rfl, by decide +kernel, by decide +kernel⟩
def m_law_are_whole (x_found : (List Int)) : M (Bool) :=
compS (fun (y11 : Int) (st28 : Unit) =>
m_law_whole y11 >>= fun r34 =>
if r34 = true then (
.ok (none, ()))
else (
.ok (some y11, ()))) x_found () >>= fun q52 =>
.ok (decide (q52.1 = ([] : List Int)))
def sp_law_are_whole (mg : Str → Option Value) : Sp := fun vs H Q E => ∃ (F : Hp) (v_found : V) (x_found : (List Int)), vs = [v_found] ∧ Pre F [] H ∧ R (a := (List Int)) F v_found x_found ∧
  wp (m_law_are_whole x_found) (fun r => ∀ (F' H' : Hp), Gr [] F H F' H' → Q (V.bl r) H')
  (fun n => ∀ (C : Addr) (H' : Hp), mg (Str.ofString n) = some (.ref C) → Kp [] H H' → E (.ref C) none H')
set_option maxHeartbeats 2000000 in
theorem ok_law_are_whole (nb : Nb mg) (C_law_whole : Ca P w K mg base "_law_whole" 1 ["found"] (sp_law_whole mg)) (D : Df K mg "_law_are_whole" "_law_are_whole" s_law_are_whole ["found"]) : Ca P w K mg base "_law_are_whole" 2 ["found"] (sp_law_are_whole mg) := by
  obtain ⟨fa_law_whole, fd_law_whole, G_law_whole, M_law_whole, K_law_whole, B_law_whole⟩ := C_law_whole.ex
  refine Ca.mk' D sc_law_are_whole (fun vs H Q E h => ?_) (fun q_ f_ cdv A outer s H vs Q E hr h => ?_)
  · obtain ⟨F, _, _, rfl, _⟩ := h
    rfl
  · obtain ⟨F, v_found, x_found, rfl, P0, f_found, hk⟩ := h
    have nd := sc_law_are_whole.nd
    have hu64 := hr.units
    have hu128 := hu128_of hr
    have O := P0.start
    refine ⟨_, (pss_one (ps_ret (pe_and (pe_callB (isiK (K := K) rfl) (by rfl) nb.b_isinstance (by decide +kernel) (pa_cons (pv 0) (pa_cons (pe_bltn (v := .ty "list") (by rfl) nb.b_list (by decide +kernel) rfl) pa_nil))) (pe_one (pe_cmpR (op_eqT (List Int) hu64) (pe_lc (own := [("one", 1)]) (g := gName 1) (tt := _) rfl nd (pi_list (pv 0)) (blkOk_by (own := [("one", 1)]) (N := ["found", "one"]) (sc := defScope s_law_are_whole) (by decide +kernel)) (fun _ _ _ _ _ => (pg_name (i := 1) nd rfl (Or.inl rfl))) (fun _ _ _ _ _ => (pts_one (pt_not (pt_val (pe_call G_law_whole (hr.mono (by decide)) rfl M_law_whole K_law_whole B_law_whole .nil passL (pa_cons (pv 1) pa_nil)))))) (fun _ _ _ _ _ => (pv 1))) (pe_lst pa_nil) (nomark _)))))), ?_⟩
    obtain ⟨p1, w2, e3, h4, hl5⟩ := R.lst_ f_found
    cases e3
    refine ⟨_, rfl, _, _, _, _, true, rfl, .ty _, (.base (.lst (O.s _ _ h4))), kit_ty (by decide +kernel), _, rfl, ?_⟩
    refine iteT ?_
    obtain ⟨p6, w7, e8, h9, hl10⟩ := R.lst_ f_found
    cases e8
    obtain ⟨c16, L12, hL13, hLs14, hLd15⟩ := compS_L hk
    refine ⟨_, rfl, _, rfl, ⟨_, (SqLF O.s h9)⟩, fun p17 hp18 => ?_⟩
    have z41 := O.was hp18
    refine lc_list (K := K) (xs := w7) (fun i H => ∃ (F_ : Hp) (st : Unit) (acc : List Int) (wa : List V), Same F F_ ∧ Ow _ F_ [(p17, .lst wa)] H ∧ RL F_ wa acc ∧ wa.length ≤ i ∧ L12 (List.drop i x_found) acc st) ⟨F, (), [], [], Same.refl _, O.new hp18, RL.nil, Nat.zero_le _, hL13⟩ (fun i_ H_ _ hp_ => ?_) ?_ ?_
    · obtain ⟨_, _, _, _, hS_, hO_, _⟩ := hp_
      exact SqLF hO_.s (hS_ _ _ h9)
    · rintro i19 x20 H21 hi22 ⟨F27, st28, acc24, wa25, S29, O31, hl30, la26, hL13⟩
      have f_found := f_found.mono S29
      have h4 := S29 _ _ h4
      have hl5 := hl5.mono S29
      have h9 := S29 _ _ h9
      have hl10 := hl10.mono S29
      obtain ⟨y11, e32, r33⟩ := RL.got hl10 hi22
      rw [drop_at e32] at hL13
      have hk := hLs14 _ _ _ _ hL13
      obtain rfl := R.int_ r33
      refine ⟨rfl, _, rfl, _, _, rfl, O31.pre0, wp_call hk (fun r34 er35 hk F36 H37 g38 => ?_) (fun n hn => hn.elim)⟩
      have O39 := O31.call0 g38
      have S_ := g38.f
      have f_found := f_found.mono S_
      have h4 := S_ _ _ h4
      have hl5 := hl5.mono S_
      have h9 := S_ _ _ h9
      have hl10 := hl10.mono S_
      have S29 := S29.trans S_
      have hl30 := hl30.mono S_
      refine ⟨_, rfl, ?_⟩
      refine iteBN (fun q40 => ?_) (fun q40 => ?_)
      · have hk := wp_if hk q40
        exact ⟨F36, (), acc24, wa25, S29, O39, hl30, Nat.le_succ_of_le la26, hk⟩
      · have hk := wp_el hk q40
        refine ⟨_, rfl, _, (O39.at 0 rfl), (comp_len la26 hi22 hl10.len c16), ?_⟩
        exact ⟨F36, (), acc24 ++ [y11], wa25 ++ [V.int y11], S29, O39.set 0 (.lst (wa25 ++ [V.int y11])) rfl, RL.snoc hl30 R.int, by rw [List.length_append]; exact Nat.succ_le_succ la26, hk⟩
    rintro H42 ⟨F43, st44, acc45, wa46, S47, O48, hl49, la50, hL51⟩
    rw [drop_end hl10.len] at hL51
    have hk := hLd15 _ _ hL51
    have f_found := f_found.mono S47
    have h4 := S47 _ _ h4
    have hl5 := hl5.mono S47
    have h9 := S47 _ _ h9
    have hl10 := hl10.mono S47
    obtain ⟨F53, O54, S55, h56⟩ := O48.frzE 0 rfl z41
    have f_found := f_found.mono S55
    have h4 := S55 _ _ h4
    have hl5 := hl5.mono S55
    have h9 := S55 _ _ h9
    have hl10 := hl10.mono S55
    have hl49 := hl49.mono S55
    have h57 := R.lst (a := Int) h56 hl49
    refine ⟨(by show 0 ≤ sizeLine; decide), fun p58 hp59 => ?_⟩
    have hl65 : RL (a := Int) F53 ([]) ([] : List Int) := RL.nil
    obtain ⟨F60, O61, S62, h63⟩ := O54.putE hp59 (.lst ([]))
    have f_found := f_found.mono S62
    have h4 := S62 _ _ h4
    have hl5 := hl5.mono S62
    have h9 := S62 _ _ h9
    have hl10 := hl10.mono S62
    have h57 := h57.mono S62
    have hl65 := hl65.mono S62
    have h64 := R.lst (a := Int) h63 hl65
    refine ⟨_, _, (R.mono h57 O61.s), (R.mono h64 O61.s), ?_⟩
    exact hk _ _  O61.g 
abbrev s_law_far : Stmt := top 14
theorem sc_law_far : FnScope ["deck"] ["deck"] (defScope s_law_far) := ⟨rfl, rfl, rfl, by decide +kernel, rfl, by decide +kernel, by decide +kernel⟩
def m_law_far (x_deck : (List Int)) : M (Int × (List Int)) :=
m_law_take x_deck (3 : Int) >>= fun r9 =>
opt (atI ([(4 : Int), (1000 : Int), ((10 : Int) ^ Int.toNat (29 : Int))]) r9.1) >>= fun y23 =>
.ok (y23, r9.2)
def sp_law_far (mg : Str → Option Value) : Sp := fun vs H Q E => ∃ (F : Hp) (a_deck : Addr) (w_deck : (List V)) (x_deck : (List Int)), vs = [.ref a_deck] ∧ Pre F [(a_deck, .lst w_deck)] H ∧ RL (a := Int) F w_deck x_deck ∧
  wp (m_law_far x_deck) (fun r => ∀ (F' H' : Hp) (w0 : (List V)), Gr [a_deck] F H F' H' → H' a_deck = some (.lst w0) → RL (a := Int) F' w0 r.2 → Q (V.int r.1) H')
  (fun n => ∀ (C : Addr) (H' : Hp), mg (Str.ofString n) = some (.ref C) → Kp [a_deck] H H' → E (.ref C) none H')
set_option maxHeartbeats 2000000 in
theorem ok_law_far (nb : Nb mg) (C_law_take : Ca P w K mg base "_law_take" 1 ["deck", "many"] (sp_law_take mg)) (D : Df K mg "_law_far" "_law_far" s_law_far ["deck"]) : Ca P w K mg base "_law_far" 2 ["deck"] (sp_law_far mg) := by
  obtain ⟨fa_law_take, fd_law_take, G_law_take, M_law_take, K_law_take, B_law_take⟩ := C_law_take.ex
  refine Ca.mk' D sc_law_far (fun vs H Q E h => ?_) (fun q_ f_ cdv A outer s H vs Q E hr h => ?_)
  · obtain ⟨F, _, _, _, rfl, _⟩ := h
    rfl
  · obtain ⟨F, a_deck, w_deck, x_deck, rfl, P0, f_deck, hk⟩ := h
    have nd := sc_law_far.nd
    have hu64 := hr.units
    have hu128 := hu128_of hr
    have O := P0.start
    refine ⟨_, (pss_one (ps_ret (pe_ix (ixListK (K := K) rfl) (pe_lst (pa_cons pe_int (pa_cons pe_int (pa_cons (pe_op op_pow pe_int pe_int) pa_nil)))) (pe_call G_law_take (hr.mono (by decide)) rfl M_law_take K_law_take B_law_take .nil (passes_call (takes_of rfl rfl rfl rfl) fun _ _ _ _ h => h) (pa_cons (pv 0) (pa_cons pe_int pa_nil))) (fun _ _ => rfl)))), ?_⟩
    refine ⟨_, _, rfl, rfl, (by decide), (by show 3 ≤ sizeLine; decide), fun p1 hp2 => ?_⟩
    have hl8 : RL (a := Int) F ([V.int (4 : Int), V.int (1000 : Int), V.int ((10 : Int) ^ Int.toNat (29 : Int))]) ([(4 : Int), (1000 : Int), ((10 : Int) ^ Int.toNat (29 : Int))]) := RL.cons R.int (RL.cons R.int (RL.cons R.int RL.nil))
    obtain ⟨F3, O4, S5, h6⟩ := O.putE hp2 (.lst ([V.int (4 : Int), V.int (1000 : Int), V.int ((10 : Int) ^ Int.toNat (29 : Int))]))
    have f_deck := f_deck.mono S5
    have hl8 := hl8.mono S5
    have h7 := R.lst (a := Int) h6 hl8
    refine ⟨_, rfl, _, _, _, _, _, rfl, (O4.pre1 0 rfl), f_deck, wp_call hk (fun r9 er10 hk F11 H12 w14 g13 h15 hl16 => ?_) (fun n hn C H1 hC kp => hn C H1 hC (O4.kp1 kp 0 rfl))⟩
    have O17 := O4.call1 g13 0 rfl h15
    have S_ := g13.f
    have h7 := h7.mono S_
    obtain ⟨p18, w19, e20, h21, hl22⟩ := R.lst_ h7
    cases e20
    obtain ⟨y23, e24, hk⟩ := wp_opt hk
    obtain ⟨w25, e26, r27⟩ := hl22.atI e24
    obtain rfl := R.int_ r27
    refine ⟨_, _, _, _, rfl, rfl, (SqLF O17.s h21), e26, ?_⟩
    exact hk _ _ w14 O17.g (O17.at 0 rfl) hl16
abbrev s_law_number : Stmt := top 15
theorem sc_law_number : FnScope ["deck", "far"] ["deck", "far"] (defScope s_law_number) := ⟨rfl, rfl, rfl, by decide +kernel, rfl, by decide +kernel, by decide +kernel⟩
def m_law_number (x_deck : (List Int)) (x_far : Int) : M (Int × (List Int)) :=
chk (CMulW (2 : Int) x_far) >>= fun _ =>
m_law_take x_deck (((2 : Int) * x_far) + (1 : Int)) >>= fun r2 =>
.ok ((r2.1 - x_far), r2.2)
def sp_law_number (mg : Str → Option Value) : Sp := fun vs H Q E => ∃ (F : Hp) (a_deck : Addr) (w_deck : (List V)) (x_deck : (List Int)) (x_far : Int), vs = [.ref a_deck, V.int x_far] ∧ Pre F [(a_deck, .lst w_deck)] H ∧ RL (a := Int) F w_deck x_deck ∧
  wp (m_law_number x_deck x_far) (fun r => ∀ (F' H' : Hp) (w0 : (List V)), Gr [a_deck] F H F' H' → H' a_deck = some (.lst w0) → RL (a := Int) F' w0 r.2 → Q (V.int r.1) H')
  (fun n => ∀ (C : Addr) (H' : Hp), mg (Str.ofString n) = some (.ref C) → Kp [a_deck] H H' → E (.ref C) none H')
set_option maxHeartbeats 2000000 in
theorem ok_law_number (nb : Nb mg) (C_law_take : Ca P w K mg base "_law_take" 1 ["deck", "many"] (sp_law_take mg)) (D : Df K mg "_law_number" "_law_number" s_law_number ["deck", "far"]) : Ca P w K mg base "_law_number" 2 ["deck", "far"] (sp_law_number mg) := by
  obtain ⟨fa_law_take, fd_law_take, G_law_take, M_law_take, K_law_take, B_law_take⟩ := C_law_take.ex
  refine Ca.mk' D sc_law_number (fun vs H Q E h => ?_) (fun q_ f_ cdv A outer s H vs Q E hr h => ?_)
  · obtain ⟨F, _, _, _, _, rfl, _⟩ := h
    rfl
  · obtain ⟨F, a_deck, w_deck, x_deck, x_far, rfl, P0, f_deck, hk⟩ := h
    have nd := sc_law_number.nd
    have hu64 := hr.units
    have hu128 := hu128_of hr
    have O := P0.start
    refine ⟨_, (pss_one (ps_ret (pe_op op_sub (pe_call G_law_take (hr.mono (by decide)) rfl M_law_take K_law_take B_law_take .nil (passes_call (takes_of rfl rfl rfl rfl) fun _ _ _ _ h => h) (pa_cons (pv 0) (pa_cons (pe_op op_add (pe_op op_mulW pe_int (pv 1)) pe_int) pa_nil))) (pv 1)))), ?_⟩
    obtain ⟨c1, hk⟩ := wp_chk hk
    refine ⟨_, rfl, _, rfl, _, _, rfl, rfl, c1, _, _, rfl, rfl, _, _, _, _, _, rfl, (O.pre1 0 rfl), f_deck, wp_call hk (fun r2 er3 hk F4 H5 w7 g6 h8 hl9 => ?_) (fun n hn C H1 hC kp => hn C H1 hC (O.kp1 kp 0 rfl))⟩
    have O10 := O.call1 g6 0 rfl h8
    have S_ := g6.f
    refine ⟨_, rfl, _, _, rfl, rfl, ?_⟩
    exact hk _ _ w7 O10.g (O10.at 0 rfl) hl9
abbrev s_law_order : Stmt := top 16
theorem sc_law_order : FnScope ["deck", "many", "left", "found", "k"] ["deck", "many"] (defScope s_law_order) := ⟨rfl, rfl, rfl, by decide +kernel, rfl, by decide +kernel, by decide +kernel⟩
def m_law_order (x_deck : (List Int)) (x_many : Int) : M ((List Int) × (List Int)) :=
chk (okR x_many) >>= fun _ =>
chk (okR x_many) >>= fun _ =>
loopN (fun (y14 : Int) (st26 : (List Int) × (List Int) × (List Int)) =>
m_law_take st26.2.2 (st26.2.1.length : Int) >>= fun r36 =>
popI st26.2.1 r36.1 >>= fun t54 =>
appL st26.1 t54.1 >>= fun _ =>
.ok ((st26.1 ++ [t54.1]), t54.2, r36.2)) (rangeL 0 x_many) (([] : List Int), (rangeL 0 x_many), x_deck) >>= fun st64 =>
.ok (st64.1, st64.2.2)
def sp_law_order (mg : Str → Option Value) : Sp := fun vs H Q E => ∃ (F : Hp) (a_deck : Addr) (w_deck : (List V)) (x_deck : (List Int)) (x_many : Int), vs = [.ref a_deck, V.int x_many] ∧ Pre F [(a_deck, .lst w_deck)] H ∧ RL (a := Int) F w_deck x_deck ∧
  wp (m_law_order x_deck x_many) (fun r => ∀ (F' H' : Hp) (w0 : (List V)), Gr [a_deck] F H F' H' → H' a_deck = some (.lst w0) → RL (a := Int) F' w0 r.2 → ∀ (p : Addr) (w : (List V)), H p = none → F' p = none → H' p = some (.lst w) → RL (a := Int) F' w r.1 → Q (.ref p) H')
  (fun n => ∀ (C : Addr) (H' : Hp), mg (Str.ofString n) = some (.ref C) → Kp [a_deck] H H' → E (.ref C) none H')
set_option maxHeartbeats 2000000 in
theorem ok_law_order (nb : Nb mg) (C_law_take : Ca P w K mg base "_law_take" 1 ["deck", "many"] (sp_law_take mg)) (D : Df K mg "_law_order" "_law_order" s_law_order ["deck", "many"]) : Ca P w K mg base "_law_order" 2 ["deck", "many"] (sp_law_order mg) := by
  obtain ⟨fa_law_take, fd_law_take, G_law_take, M_law_take, K_law_take, B_law_take⟩ := C_law_take.ex
  refine Ca.mk' D sc_law_order (fun vs H Q E h => ?_) (fun q_ f_ cdv A outer s H vs Q E hr h => ?_)
  · obtain ⟨F, _, _, _, _, rfl, _⟩ := h
    rfl
  · obtain ⟨F, a_deck, w_deck, x_deck, x_many, rfl, P0, f_deck, hk⟩ := h
    have nd := sc_law_order.nd
    have hu64 := hr.units
    have hu128 := hu128_of hr
    have O := P0.start
    refine ⟨_, (pss_cons (ps_set (i := 2) nd rfl (Or.inl rfl) (pe_listRg rfl (by rfl) nb.b_list (prg_1 (by rfl) nb.b_range (pv 1))))
  (pss_cons (ps_set (i := 3) nd rfl (Or.inl rfl) (pe_lst pa_nil))
  (pss_cons (ps_for (passes_of rfl) rfl (pi_range1 rfl nb.b_range (pa_cons (pv 1) pa_nil)) (pg_name (i := 4) nd rfl (Or.inl rfl)) (pss_one (ps_expr (pe_bm PySem.F.plainAttrs_list PySem.F.slot_list_append PySem.F.type_list_append mt_append (pv 3) (pa_cons (pe_bm PySem.F.plainAttrs_list PySem.F.slot_list_pop PySem.F.type_list_pop mt_popAt (pv 2) (pa_cons (pe_call G_law_take (hr.mono (by decide)) rfl M_law_take K_law_take B_law_take .nil (passes_call (takes_of rfl rfl rfl rfl) fun _ _ _ _ h => h) (pa_cons (pv 0) (pa_cons (pe_callB call_lenT (by rfl) nb.b_len PySem.boot_len (pa_cons (pv 2) pa_nil)) pa_nil))) pa_nil)) pa_nil)))))
  (pss_one (ps_ret (pv 3)))))), ?_⟩
    obtain ⟨c2, hk⟩ := wp_chk hk
    refine ⟨_, rfl, _, rfl, c2.rg1, fun p3 hp4 => ?_⟩
    have hl6 : RL (a := Int) F (rgV 0 x_many) (rangeL 0 x_many) := RL.rg
    have z7 := O.was hp4
    have O5 := O.new (o := .lst (rgV 0 x_many)) hp4
    refine ⟨(by show 0 ≤ sizeLine; decide), fun p9 hp10 => ?_⟩
    have hl12 : RL (a := Int) F ([]) ([] : List Int) := RL.nil
    have z13 := O5.was hp10
    have O11 := O5.new (o := .lst ([])) hp10
    obtain ⟨c15, hk⟩ := wp_chk hk
    obtain ⟨L16, hL17, hLs18, hLd19⟩ := loopN_L hk
    refine ⟨_, rfl, _, rfl, c15.lo, c15.hi, ?_⟩
    refine for_range (lo := 0) (n := (x_many).toNat) (fun i σ H => ∃ (F_ : Hp) (st : (List Int) × (List Int) × (List Int)) (w_0 : (List V)) (w_1 : (List V)) (w_2 : (List V)) (t_0 : Option V), σ = [some (V.ref a_deck), some (V.int x_many), some (V.ref p3), some (V.ref p9), t_0] ∧ Same F F_ ∧ Ow _ F_ [(p9, .lst w_0), (p3, .lst w_1), (a_deck, .lst w_2)] H ∧ RL (a := Int) F_ w_0 st.1 ∧ RL (a := Int) F_ w_1 st.2.1 ∧ RL (a := Int) F_ w_2 st.2.2 ∧ L16 (List.drop i (rangeL 0 x_many)) st) ⟨F, (([] : List Int), (rangeL 0 x_many), x_deck), [], (rgV 0 x_many), w_deck, none, rfl, Same.refl _, O11, hl12, hl6, f_deck, hL17⟩ ?_ ?_
    · rintro i20 sg22 H23 hi24 ⟨F34, st26, w27, w28, w29, t33, rfl, S25, O35, hl30, hl31, hl32, hL17⟩
      rw [rangeL_get0 hi24] at hL17
      have hk := hLs18 _ _ _ hL17
      obtain ⟨y14, he_⟩ : ∃ z_, z_ = 0 + (i20 : Int) := ⟨_, rfl⟩
      try rw [← he_] at hk
      rw [← he_]
      refine ⟨_, rfl, (.inl ⟨rfl, _, SqL.of (O35.at 0 rfl)⟩), _, rfl, (.inl ⟨rfl, _, SqL.of (O35.at 1 rfl)⟩), _, rfl, _, rfl, _, _, _, rfl, (.inl (O35.at 1 rfl)), hl31.len, _, _, _, _, _, rfl, (O35.pre1 2 rfl), hl32, wp_call hk (fun r36 er37 hk F38 H39 w41 g40 h42 hl43 => ?_) (fun n hn C H1 hC kp => hn C H1 hC (O35.kp1 kp 2 rfl))⟩
      have O44 := O35.call1 g40 2 rfl h42
      have S_ := g40.f
      have hl30 := hl30.mono S_
      have hl31 := hl31.mono S_
      have S25 := S25.trans S_
      obtain ⟨j45, y46, e47, c48, c49, e50, hk⟩ := wp_popI hk
      obtain ⟨w51, e52, r53⟩ := hl31.get e50
      refine ⟨_, _, _, _, _, rfl, rfl, (O44.at 1 rfl), c48, c49, (by rw [hl31.len]; exact e47), e52, ?_⟩
      obtain rfl := R.int_ r53
      have O55 := O44.set 1 (.lst (w28.eraseIdx j45)) rfl
      have hl56 : RL (a := Int) F38 (w28.eraseIdx j45) (st26.2.1.eraseIdx j45) := RL.erase j45 hl31
      obtain ⟨c57, hk⟩ := wp_appL hk
      refine ⟨_, _, _, rfl, rfl, (O55.at 0 rfl), (by rw [hl30.len]; exact c57), ?_⟩
      have O59 := O55.set 0 (.lst (w27 ++ [V.int y46])) rfl
      have hl60 : RL (a := Int) F38 (w27 ++ [V.int y46]) (st26.1 ++ [y46]) := RL.snoc hl30 R.int
      exact ⟨F38, ((st26.1 ++ [y46]), st26.2.1.eraseIdx j45, r36.2), (w27 ++ [V.int y46]), (w28.eraseIdx j45), w41, some (V.int y14), rfl, S25, O59, hl60, hl56, hl43, hk⟩
    rintro sg61 H62 ⟨F73, st64, w66, w67, w68, t72, rfl, S63, O74, hl69, hl70, hl71, hL65⟩
    rw [rangeL_end0] at hL65
    have hk := hLd19 _ hL65
    refine ⟨_, rfl, ?_⟩
    exact hk _ _ w68 O74.g (O74.at 2 rfl) hl71 _ _ z13 (O74.cf _ (List.mem_of_getElem? (i := 0) rfl)) (O74.at 0 rfl) hl69
abbrev s_law_tree : Stmt := top 17
theorem sc_law_tree : FnScope ["deck", "most", "far", "many", "order", "kind", "ties", "k", "at", "pair"] ["deck", "most", "far"] (defScope s_law_tree) := ⟨rfl, rfl, rfl, by decide +kernel, rfl, by decide +kernel, by decide +kernel⟩
def m_law_tree (x_deck : (List Int)) (x_most : Int) (x_far : Int) : M (((List Int) × (List (T3 Int Int Int))) × (List Int)) :=
m_law_take x_deck x_most >>= fun r1 =>
m_law_order r1.2 ((1 : Int) + r1.1) >>= fun r10 =>
m_law_take r10.2 (5 : Int) >>= fun r32 =>
chk (okR (1 : Int)) >>= fun _ =>
chk (okR ((1 : Int) + r1.1)) >>= fun _ =>
loopN (fun (y47 : Int) (st60 : (List Int) × (List (T3 Int Int Int))) =>
m_law_take st60.1 y47 >>= fun r70 =>
m_law_take r70.2 (3 : Int) >>= fun r79 =>
m_law_take r79.2 y47 >>= fun r88 =>
opt (atI ([r70.1, (y47 - (1 : Int)), (0 : Int), (if ((y47 - (1 : Int)) - r79.1) > (0 : Int) then ((y47 - (1 : Int)) - r79.1) else (0 : Int)), r88.1]) r32.1) >>= fun y110 =>
opt (atI r10.1 y47) >>= fun y120 =>
opt (atI r10.1 y110) >>= fun y130 =>
opt (atI (sortT ([y120, y130])) (0 : Int)) >>= fun y161 =>
opt (atI (sortT ([y120, y130])) (1 : Int)) >>= fun y171 =>
m_law_number r88.2 x_far >>= fun r176 =>
appL st60.2 (T3.mk y161 y171 r176.1) >>= fun _ =>
.ok (r176.2, (st60.2 ++ [(T3.mk y161 y171 r176.1)]))) (rangeL (1 : Int) ((1 : Int) + r1.1)) (r32.2, ([] : List (T3 Int Int Int))) >>= fun st199 =>
chk (okR ((1 : Int) + r1.1)) >>= fun _ =>
compS (fun (y210 : Int) (st228 : (List Int)) =>
m_law_number st228 x_far >>= fun r234 =>
.ok (some r234.1, r234.2)) (rangeL 0 ((1 : Int) + r1.1)) st199.1 >>= fun q256 =>
.ok ((q256.1, (sortT st199.2)), q256.2)
def sp_law_tree (mg : Str → Option Value) : Sp := fun vs H Q E => ∃ (F : Hp) (a_deck : Addr) (w_deck : (List V)) (x_deck : (List Int)) (x_most : Int) (x_far : Int), vs = [.ref a_deck, V.int x_most, V.int x_far] ∧ Pre F [(a_deck, .lst w_deck)] H ∧ RL (a := Int) F w_deck x_deck ∧
  wp (m_law_tree x_deck x_most x_far) (fun r => ∀ (F' H' : Hp) (w0 : (List V)), Gr [a_deck] F H F' H' → H' a_deck = some (.lst w0) → RL (a := Int) F' w0 r.2 → ∀ v : V, R (a := ((List Int) × (List (T3 Int Int Int)))) F' v r.1 → Q v H')
  (fun n => ∀ (C : Addr) (H' : Hp), mg (Str.ofString n) = some (.ref C) → Kp [a_deck] H H' → E (.ref C) none H')
set_option maxHeartbeats 2000000 in
theorem ok_law_tree (nb : Nb mg) (C_law_number : Ca P w K mg base "_law_number" 2 ["deck", "far"] (sp_law_number mg)) (C_law_order : Ca P w K mg base "_law_order" 2 ["deck", "many"] (sp_law_order mg)) (C_law_take : Ca P w K mg base "_law_take" 1 ["deck", "many"] (sp_law_take mg)) (D : Df K mg "_law_tree" "_law_tree" s_law_tree ["deck", "most", "far"]) : Ca P w K mg base "_law_tree" 3 ["deck", "most", "far"] (sp_law_tree mg) := by
  obtain ⟨fa_law_number, fd_law_number, G_law_number, M_law_number, K_law_number, B_law_number⟩ := C_law_number.ex
  obtain ⟨fa_law_order, fd_law_order, G_law_order, M_law_order, K_law_order, B_law_order⟩ := C_law_order.ex
  obtain ⟨fa_law_take, fd_law_take, G_law_take, M_law_take, K_law_take, B_law_take⟩ := C_law_take.ex
  refine Ca.mk' D sc_law_tree (fun vs H Q E h => ?_) (fun q_ f_ cdv A outer s H vs Q E hr h => ?_)
  · obtain ⟨F, _, _, _, _, _, rfl, _⟩ := h
    rfl
  · obtain ⟨F, a_deck, w_deck, x_deck, x_most, x_far, rfl, P0, f_deck, hk⟩ := h
    have nd := sc_law_tree.nd
    have hu64 := hr.units
    have hu128 := hu128_of hr
    have O := P0.start
    refine ⟨_, (pss_cons (ps_set (i := 3) nd rfl (Or.inl rfl) (pe_op op_add pe_int (pe_call G_law_take (hr.mono (by decide)) rfl M_law_take K_law_take B_law_take .nil (passes_call (takes_of rfl rfl rfl rfl) fun _ _ _ _ h => h) (pa_cons (pv 0) (pa_cons (pv 1) pa_nil)))))
  (pss_cons (ps_set (i := 4) nd rfl (Or.inl rfl) (pe_call G_law_order (hr.mono (by decide)) rfl M_law_order K_law_order B_law_order .nil (passes_call (takes_of rfl rfl rfl rfl) fun _ _ _ _ h => h) (pa_cons (pv 0) (pa_cons (pv 3) pa_nil))))
  (pss_cons (ps_set (i := 5) nd rfl (Or.inl rfl) (pe_call G_law_take (hr.mono (by decide)) rfl M_law_take K_law_take B_law_take .nil (passes_call (takes_of rfl rfl rfl rfl) fun _ _ _ _ h => h) (pa_cons (pv 0) (pa_cons pe_int pa_nil))))
  (pss_cons (ps_set (i := 6) nd rfl (Or.inl rfl) (pe_lst pa_nil))
  (pss_cons (ps_for (passes_of rfl) rfl (pi_range2 rfl nb.b_range (pa_cons pe_int (pa_cons (pv 3) pa_nil))) (pg_name (i := 7) nd rfl (Or.inl rfl)) (pss_cons (ps_set (i := 8) nd rfl (Or.inl rfl) (pe_ix (ixListK (K := K) rfl) (pe_lst (pa_cons (pe_call G_law_take (hr.mono (by decide)) rfl M_law_take K_law_take B_law_take .nil (passes_call (takes_of rfl rfl rfl rfl) fun _ _ _ _ h => h) (pa_cons (pv 0) (pa_cons (pv 7) pa_nil))) (pa_cons (pe_op op_sub (pv 7) pe_int) (pa_cons pe_int (pa_cons (pe_callB (call_max2 rfl) (by rfl) nb.b_max (by decide +kernel) (pa_cons pe_int (pa_cons (pe_op op_sub (pe_op op_sub (pv 7) pe_int) (pe_call G_law_take (hr.mono (by decide)) rfl M_law_take K_law_take B_law_take .nil (passes_call (takes_of rfl rfl rfl rfl) fun _ _ _ _ h => h) (pa_cons (pv 0) (pa_cons pe_int pa_nil)))) pa_nil))) (pa_cons (pe_call G_law_take (hr.mono (by decide)) rfl M_law_take K_law_take B_law_take .nil (passes_call (takes_of rfl rfl rfl rfl) fun _ _ _ _ h => h) (pa_cons (pv 0) (pa_cons (pv 7) pa_nil))) pa_nil)))))) (pv 5) (fun _ _ => rfl)))
  (pss_cons (ps_set (i := 9) nd rfl (Or.inl rfl) (pe_callB (cr_sortedT Int hu128) (by rfl) nb.b_sorted (by decide +kernel) (pa_cons (pe_lst (pa_cons (pe_ix (ixListK (K := K) rfl) (pv 4) (pv 7) (fun _ _ => rfl)) (pa_cons (pe_ix (ixListK (K := K) rfl) (pv 4) (pv 8) (fun _ _ => rfl)) pa_nil))) pa_nil)))
  (pss_one (ps_expr (pe_bm PySem.F.plainAttrs_list PySem.F.slot_list_append PySem.F.type_list_append mt_append (pv 6) (pa_cons (pe_tup (pa_cons (pe_ix (ixListK (K := K) rfl) (pv 9) pe_int (fun _ _ => rfl)) (pa_cons (pe_ix (ixListK (K := K) rfl) (pv 9) pe_int (fun _ _ => rfl)) (pa_cons (pe_call G_law_number (hr.mono (by decide)) rfl M_law_number K_law_number B_law_number .nil (passes_call (takes_of rfl rfl rfl rfl) fun _ _ _ _ h => h) (pa_cons (pv 0) (pa_cons (pv 2) pa_nil))) pa_nil)))) pa_nil)))))))
  (pss_one (ps_ret (pe_tup (pa_cons (pe_lc (own := [("k", 7)]) (g := gName 7) (tt := _) rfl nd (pi_range1 rfl nb.b_range (pa_cons (pv 3) pa_nil)) (blkOk_by (own := [("k", 7)]) (N := ["deck", "most", "far", "many", "order", "kind", "ties", "k", "at", "pair"]) (sc := defScope s_law_tree) (by decide +kernel)) (fun _ _ _ _ _ => (pg_name (i := 7) nd rfl (Or.inl rfl))) (fun _ _ _ _ _ => pts_nil) (fun _ _ _ _ _ => (pe_call G_law_number (hr.mono (by decide)) rfl M_law_number K_law_number B_law_number .nil passL (pa_cons (pv 0) (pa_cons (pv 2) pa_nil))))) (pa_cons (pe_callB (cr_sortedT (T3 Int Int Int) hu128) (by rfl) nb.b_sorted (by decide +kernel) (pa_cons (pv 6) pa_nil)) pa_nil)))))))))), ?_⟩
    refine ⟨_, rfl, _, rfl, _, _, _, _, _, rfl, (O.pre1 0 rfl), f_deck, wp_call hk (fun r1 er2 hk F3 H4 w6 g5 h7 hl8 => ?_) (fun n hn C H1 hC kp => hn C H1 hC (O.kp1 kp 0 rfl))⟩
    have O9 := O.call1 g5 0 rfl h7
    have S_ := g5.f
    refine ⟨_, _, rfl, rfl, _, rfl, _, rfl, _, _, _, _, _, rfl, (O9.pre1 0 rfl), hl8, wp_call hk (fun r10 er11 hk F12 H13 w15 g14 h16 hl17 p18 w19 hn20 hf21 h22 hl23 => ?_) (fun n hn C H1 hC kp => hn C H1 hC (O9.kp1 kp 0 rfl))⟩
    have O24 := O9.call1 g14 0 rfl h16
    have S_ := g14.f
    have O25 := O9.got O24 rfl hn20 hf21 h22
    have z26 := O9.was hn20
    obtain ⟨F27, O28, S29, h30⟩ := O25.frzE 0 rfl z26
    have hl17 := hl17.mono S29
    have hl23 := hl23.mono S29
    have h31 := R.lst (a := Int) h30 hl23
    refine ⟨_, rfl, _, _, _, _, _, rfl, (O28.pre1 0 rfl), hl17, wp_call hk (fun r32 er33 hk F34 H35 w37 g36 h38 hl39 => ?_) (fun n hn C H1 hC kp => hn C H1 hC (O28.kp1 kp 0 rfl))⟩
    have O40 := O28.call1 g36 0 rfl h38
    have S_ := g36.f
    have h31 := h31.mono S_
    refine ⟨(by show 0 ≤ sizeLine; decide), fun p42 hp43 => ?_⟩
    have hl45 : RL (a := (T3 Int Int Int)) F34 ([]) ([] : List (T3 Int Int Int)) := RL.nil
    have z46 := O40.was hp43
    have O44 := O40.new (o := .lst ([])) hp43
    obtain ⟨c48, hk⟩ := wp_chk hk
    obtain ⟨c49, hk⟩ := wp_chk hk
    obtain ⟨L50, hL51, hLs52, hLd53⟩ := loopN_L hk
    refine ⟨_, rfl, _, _, rfl, ⟨c48.lo, c48.hi, c49.lo, c49.hi⟩, ?_⟩
    refine for_range (lo := (1 : Int)) (n := (((1 : Int) + r1.1) - (1 : Int)).toNat) (fun i σ H => ∃ (F_ : Hp) (st : (List Int) × (List (T3 Int Int Int))) (w_0 : (List V)) (w_1 : (List V)) (t_0 : Option V) (t_1 : Option V) (t_2 : Option V), σ = [some (V.ref a_deck), some (V.int x_most), some (V.int x_far), some (V.int ((1 : Int) + r1.1)), some (V.ref p18), some (V.int r32.1), some (V.ref p42), t_0, t_1, t_2] ∧ Same F34 F_ ∧ Ow _ F_ [(p42, .lst w_1), (a_deck, .lst w_0)] H ∧ RL (a := Int) F_ w_0 st.1 ∧ RL (a := (T3 Int Int Int)) F_ w_1 st.2 ∧ L50 (List.drop i (rangeL (1 : Int) ((1 : Int) + r1.1))) st) ⟨F34, (r32.2, ([] : List (T3 Int Int Int))), w37, [], none, none, none, rfl, Same.refl _, O44, hl39, hl45, hL51⟩ ?_ ?_
    · rintro i54 sg56 H57 hi58 ⟨F68, st60, w61, w62, t65, t66, t67, rfl, S59, O69, hl63, hl64, hL51⟩
      have h31 := h31.mono S59
      rw [rangeL_get hi58] at hL51
      have hk := hLs52 _ _ _ hL51
      obtain ⟨y47, he_⟩ : ∃ z_, z_ = (1 : Int) + (i54 : Int) := ⟨_, rfl⟩
      try rw [← he_] at hk
      rw [← he_]
      refine ⟨_, rfl, _, rfl, _, _, _, _, _, rfl, (O69.pre1 1 rfl), hl63, wp_call hk (fun r70 er71 hk F72 H73 w75 g74 h76 hl77 => ?_) (fun n hn C H1 hC kp => hn C H1 hC (O69.kp1 kp 1 rfl))⟩
      have O78 := O69.call1 g74 1 rfl h76
      have S_ := g74.f
      have h31 := h31.mono S_
      have hl64 := hl64.mono S_
      have S59 := S59.trans S_
      refine ⟨_, rfl, _, _, rfl, rfl, _, rfl, _, _, rfl, rfl, _, rfl, _, _, _, _, _, rfl, (O78.pre1 1 rfl), hl77, wp_call hk (fun r79 er80 hk F81 H82 w84 g83 h85 hl86 => ?_) (fun n hn C H1 hC kp => hn C H1 hC (O78.kp1 kp 1 rfl))⟩
      have O87 := O78.call1 g83 1 rfl h85
      have S_ := g83.f
      have h31 := h31.mono S_
      have hl64 := hl64.mono S_
      have S59 := S59.trans S_
      refine ⟨_, _, rfl, rfl, _, _, rfl, _, rfl, _, rfl, _, _, _, _, _, rfl, (O87.pre1 1 rfl), hl86, wp_call hk (fun r88 er89 hk F90 H91 w93 g92 h94 hl95 => ?_) (fun n hn C H1 hC kp => hn C H1 hC (O87.kp1 kp 1 rfl))⟩
      have O96 := O87.call1 g92 1 rfl h94
      have S_ := g92.f
      have h31 := h31.mono S_
      have hl64 := hl64.mono S_
      have S59 := S59.trans S_
      refine ⟨(by show 5 ≤ sizeLine; decide), fun p97 hp98 => ?_⟩
      have hl104 : RL (a := Int) F90 ([V.int r70.1, V.int (y47 - (1 : Int)), V.int (0 : Int), V.int (if ((y47 - (1 : Int)) - r79.1) > (0 : Int) then ((y47 - (1 : Int)) - r79.1) else (0 : Int)), V.int r88.1]) ([r70.1, (y47 - (1 : Int)), (0 : Int), (if ((y47 - (1 : Int)) - r79.1) > (0 : Int) then ((y47 - (1 : Int)) - r79.1) else (0 : Int)), r88.1]) := RL.cons R.int (RL.cons R.int (RL.cons R.int (RL.cons R.int (RL.cons R.int RL.nil))))
      obtain ⟨F99, O100, S101, h102⟩ := O96.putE hp98 (.lst ([V.int r70.1, V.int (y47 - (1 : Int)), V.int (0 : Int), V.int (if ((y47 - (1 : Int)) - r79.1) > (0 : Int) then ((y47 - (1 : Int)) - r79.1) else (0 : Int)), V.int r88.1]))
      have h31 := h31.mono S101
      have hl64 := hl64.mono S101
      have S59 := S59.trans S101
      have hl95 := hl95.mono S101
      have hl104 := hl104.mono S101
      have h103 := R.lst (a := Int) h102 hl104
      obtain ⟨p105, w106, e107, h108, hl109⟩ := R.lst_ h103
      cases e107
      obtain ⟨y110, e111, hk⟩ := wp_opt hk
      obtain ⟨w112, e113, r114⟩ := hl109.atI e111
      obtain rfl := R.int_ r114
      obtain ⟨p115, w116, e117, h118, hl119⟩ := R.lst_ h31
      cases e117
      obtain ⟨y120, e121, hk⟩ := wp_opt hk
      obtain ⟨w122, e123, r124⟩ := hl119.atI e121
      obtain rfl := R.int_ r124
      obtain ⟨p125, w126, e127, h128, hl129⟩ := R.lst_ h31
      cases e127
      obtain ⟨y130, e131, hk⟩ := wp_opt hk
      obtain ⟨w132, e133, r134⟩ := hl129.atI e131
      obtain rfl := R.int_ r134
      refine ⟨_, rfl, _, _, _, _, rfl, rfl, (SqLF O100.s h108), e113, _, rfl, _, rfl, _, _, _, _, rfl, rfl, (SqLF O100.s h118), e123, _, rfl, _, rfl, _, _, _, _, rfl, rfl, (SqLF O100.s h128), e133, (by show 2 ≤ sizeLine; decide), fun p135 hp136 => ?_⟩
      have hl142 : RL (a := Int) F99 ([V.int y120, V.int y130]) ([y120, y130]) := RL.cons R.int (RL.cons R.int RL.nil)
      obtain ⟨F137, O138, S139, h140⟩ := O100.putE hp136 (.lst ([V.int y120, V.int y130]))
      have h31 := h31.mono S139
      have hl64 := hl64.mono S139
      have S59 := S59.trans S139
      have hl95 := hl95.mono S139
      have h103 := h103.mono S139
      have h108 := S139 _ _ h108
      have hl109 := hl109.mono S139
      have h118 := S139 _ _ h118
      have hl119 := hl119.mono S139
      have h128 := S139 _ _ h128
      have hl129 := hl129.mono S139
      have hl142 := hl142.mono S139
      have h141 := R.lst (a := Int) h140 hl142
      obtain ⟨p143, w144, e145, h146, hl147⟩ := R.lst_ h141
      cases e145
      refine ⟨_, _, _, rfl, (O138.s _ _ h146), (RL.mono hl147 O138.s), fun p148 hp149 => ?_⟩
      have hl155 : RL (a := Int) F137 (sortV w144 ([y120, y130])) (sortT ([y120, y130])) := (RL.sorted hl147)
      obtain ⟨F150, O151, S152, h153⟩ := O138.putE hp149 (.lst (sortV w144 ([y120, y130])))
      have h31 := h31.mono S152
      have hl64 := hl64.mono S152
      have S59 := S59.trans S152
      have hl95 := hl95.mono S152
      have h103 := h103.mono S152
      have h108 := S152 _ _ h108
      have hl109 := hl109.mono S152
      have h118 := S152 _ _ h118
      have hl119 := hl119.mono S152
      have h128 := S152 _ _ h128
      have hl129 := hl129.mono S152
      have h141 := h141.mono S152
      have h146 := S152 _ _ h146
      have hl147 := hl147.mono S152
      have hl155 := hl155.mono S152
      have h154 := R.lst (a := Int) h153 hl155
      obtain ⟨p156, w157, e158, h159, hl160⟩ := R.lst_ h154
      cases e158
      obtain ⟨y161, e162, hk⟩ := wp_opt hk
      obtain ⟨w163, e164, r165⟩ := hl160.atI e162
      obtain rfl := R.int_ r165
      obtain ⟨p166, w167, e168, h169, hl170⟩ := R.lst_ h154
      cases e168
      obtain ⟨y171, e172, hk⟩ := wp_opt hk
      obtain ⟨w173, e174, r175⟩ := hl170.atI e172
      obtain rfl := R.int_ r175
      refine ⟨_, rfl, (.inl ⟨rfl, _, SqL.of (O151.at 0 rfl)⟩), _, rfl, _, _, _, _, rfl, rfl, (SqLF O151.s h159), e164, _, rfl, _, _, _, _, rfl, rfl, (SqLF O151.s h169), e174, _, rfl, _, rfl, _, _, _, _, _, rfl, (O151.pre1 1 rfl), hl95, wp_call hk (fun r176 er177 hk F178 H179 w181 g180 h182 hl183 => ?_) (fun n hn C H1 hC kp => hn C H1 hC (O151.kp1 kp 1 rfl))⟩
      have O184 := O151.call1 g180 1 rfl h182
      have S_ := g180.f
      have h31 := h31.mono S_
      have hl64 := hl64.mono S_
      have S59 := S59.trans S_
      have h103 := h103.mono S_
      have h108 := S_ _ _ h108
      have hl109 := hl109.mono S_
      have h118 := S_ _ _ h118
      have hl119 := hl119.mono S_
      have h128 := S_ _ _ h128
      have hl129 := hl129.mono S_
      have h141 := h141.mono S_
      have h146 := S_ _ _ h146
      have hl147 := hl147.mono S_
      have h154 := h154.mono S_
      have h159 := S_ _ _ h159
      have hl160 := hl160.mono S_
      have h169 := S_ _ _ h169
      have hl170 := hl170.mono S_
      refine ⟨(by show 3 ≤ sizeLine; decide), fun p185 hp186 => ?_⟩
      obtain ⟨F187, O188, S189, h190⟩ := O184.putE hp186 (.tup [V.int y161, V.int y171, V.int r176.1])
      have h31 := h31.mono S189
      have hl64 := hl64.mono S189
      have S59 := S59.trans S189
      have h103 := h103.mono S189
      have h108 := S189 _ _ h108
      have hl109 := hl109.mono S189
      have h118 := S189 _ _ h118
      have hl119 := hl119.mono S189
      have h128 := S189 _ _ h128
      have hl129 := hl129.mono S189
      have h141 := h141.mono S189
      have h146 := S189 _ _ h146
      have hl147 := hl147.mono S189
      have h154 := h154.mono S189
      have h159 := S189 _ _ h159
      have hl160 := hl160.mono S189
      have h169 := S189 _ _ h169
      have hl170 := hl170.mono S189
      have hl183 := hl183.mono S189
      have h191 : R (a := (T3 Int Int Int)) F187 (.ref p185) (T3.mk y161 y171 r176.1) := R.t3 h190 R.int R.int R.int
      obtain ⟨c192, hk⟩ := wp_appL hk
      refine ⟨_, _, _, rfl, rfl, (O188.at 0 rfl), (by rw [hl64.len]; exact c192), ?_⟩
      have O194 := O188.set 0 (.lst (w62 ++ [V.ref p185])) rfl
      have hl195 : RL (a := (T3 Int Int Int)) F187 (w62 ++ [V.ref p185]) (st60.2 ++ [(T3.mk y161 y171 r176.1)]) := RL.snoc hl64 h191
      exact ⟨F187, (r176.2, (st60.2 ++ [(T3.mk y161 y171 r176.1)])), w181, (w62 ++ [V.ref p185]), some (V.int y47), some (V.int y110), some (V.ref p148), rfl, S59, O194, hl183, hl195, hk⟩
    rintro sg196 H197 ⟨F208, st199, w201, w202, t205, t206, t207, rfl, S198, O209, hl203, hl204, hL200⟩
    rw [rangeL_end] at hL200
    have hk := hLd53 _ hL200
    have h31 := h31.mono S198
    obtain ⟨c211, hk⟩ := wp_chk hk
    obtain ⟨c216, L212, hL213, hLs214, hLd215⟩ := compS_L hk
    refine ⟨_, rfl, _, rfl, c211.lo, c211.hi, fun p217 hp218 => ?_⟩
    have z243 := O209.was hp218
    refine lc_range (lo := 0) (n := (((1 : Int) + r1.1)).toNat) (fun i H => ∃ (F_ : Hp) (st : (List Int)) (acc : List Int) (wa : List V) (w_0 : (List V)), Same F208 F_ ∧ Ow _ F_ [(p217, .lst wa), (p42, .lst w202), (a_deck, .lst w_0)] H ∧ RL F_ wa acc ∧ RL (a := Int) F_ w_0 st ∧ wa.length ≤ i ∧ L212 (List.drop i (rangeL 0 ((1 : Int) + r1.1))) acc st) ⟨F208, st199.1, [], [], w201, Same.refl _, O209.new hp218, RL.nil, hl203, Nat.zero_le _, hL213⟩ ?_ ?_
    · rintro i219 H221 hi222 ⟨F227, st228, acc224, wa225, w230, S229, O233, hl232, hl231, la226, hL213⟩
      have h31 := h31.mono S229
      have hl204 := hl204.mono S229
      rw [rangeL_get0 hi222] at hL213
      have hk := hLs214 _ _ _ _ hL213
      obtain ⟨y210, he_⟩ : ∃ z_, z_ = 0 + (i219 : Int) := ⟨_, rfl⟩
      try rw [← he_] at hk
      rw [← he_]
      refine ⟨rfl, ?_⟩
      refine ⟨_, rfl, _, rfl, _, _, _, _, _, rfl, (O233.pre1 2 rfl), hl231, wp_call hk (fun r234 er235 hk F236 H237 w239 g238 h240 hl241 => ?_) (fun n hn => hn.elim)⟩
      have O242 := O233.call1 g238 2 rfl h240
      have S_ := g238.f
      have h31 := h31.mono S_
      have hl204 := hl204.mono S_
      have S229 := S229.trans S_
      have hl232 := hl232.mono S_
      refine ⟨_, (O242.at 0 rfl), (comp_lenR la226 hi222 (by rw [Int.sub_zero]) c216), ?_⟩
      exact ⟨F236, r234.2, acc224 ++ [r234.1], wa225 ++ [V.int r234.1], w239, S229, O242.set 0 (.lst (wa225 ++ [V.int r234.1])) rfl, RL.snoc hl232 R.int, hl241, by rw [List.length_append]; exact Nat.succ_le_succ la226, hk⟩
    rintro H244 ⟨F245, st246, acc247, wa248, w254, S249, O250, hl251, hl255, la252, hL253⟩
    rw [rangeL_end0] at hL253
    have hk := hLd215 _ _ hL253
    have h31 := h31.mono S249
    have hl204 := hl204.mono S249
    obtain ⟨F257, O258, S259, h260⟩ := O250.frzE 0 rfl z243
    have h31 := h31.mono S259
    have hl204 := hl204.mono S259
    have hl255 := hl255.mono S259
    have hl251 := hl251.mono S259
    have h261 := R.lst (a := Int) h260 hl251
    refine ⟨_, rfl, _, _, _, rfl, (O258.at 0 rfl), (RL.mono hl204 O258.s), fun p262 hp263 => ?_⟩
    have hl269 : RL (a := (T3 Int Int Int)) F257 (sortV w202 st199.2) (sortT st199.2) := (RL.sorted hl204)
    obtain ⟨F264, O265, S266, h267⟩ := O258.putE hp263 (.lst (sortV w202 st199.2))
    have h31 := h31.mono S266
    have hl204 := hl204.mono S266
    have hl255 := hl255.mono S266
    have h261 := h261.mono S266
    have hl269 := hl269.mono S266
    have h268 := R.lst (a := (T3 Int Int Int)) h267 hl269
    refine ⟨(by show 2 ≤ sizeLine; decide), fun p270 hp271 => ?_⟩
    obtain ⟨F272, O273, S274, h275⟩ := O265.putE hp271 (.tup [V.ref p217, V.ref p262])
    have h31 := h31.mono S274
    have hl204 := hl204.mono S274
    have hl255 := hl255.mono S274
    have h261 := h261.mono S274
    have h268 := h268.mono S274
    have h276 : R (a := ((List Int) × (List (T3 Int Int Int)))) F272 (.ref p270) (acc247, (sortT st199.2)) := R.t2 h275 h261 h268
    exact hk _ _ w254 O273.g (O273.at 1 rfl) hl255 _ h276
abbrev s_law_copied : Stmt := top 18
theorem sc_law_copied : FnScope ["tree"] ["tree"] (defScope s_law_copied) := ⟨rfl, rfl, rfl, by decide +kernel, rfl, by decide +kernel, by decide +kernel⟩
def m_law_copied (x_tree : ((List Int) × (List (T3 Int Int Int)))) : M (((List Int) × (List (T3 Int Int Int)))) :=
.ok (x_tree.1, x_tree.2)
def sp_law_copied (mg : Str → Option Value) : Sp := fun vs H Q E => ∃ (F : Hp) (v_tree : V) (x_tree : ((List Int) × (List (T3 Int Int Int)))), vs = [v_tree] ∧ Pre F [] H ∧ R (a := ((List Int) × (List (T3 Int Int Int)))) F v_tree x_tree ∧
  wp (m_law_copied x_tree) (fun r => ∀ (F' H' : Hp), Gr [] F H F' H' → ∀ v : V, R (a := ((List Int) × (List (T3 Int Int Int)))) F' v r → Q v H')
  (fun n => ∀ (C : Addr) (H' : Hp), mg (Str.ofString n) = some (.ref C) → Kp [] H H' → E (.ref C) none H')
set_option maxHeartbeats 2000000 in
theorem ok_law_copied (nb : Nb mg) (D : Df K mg "_law_copied" "_law_copied" s_law_copied ["tree"]) : Ca P w K mg base "_law_copied" 1 ["tree"] (sp_law_copied mg) := by
  refine Ca.mk' D sc_law_copied (fun vs H Q E h => ?_) (fun q_ f_ cdv A outer s H vs Q E hr h => ?_)
  · obtain ⟨F, _, _, rfl, _⟩ := h
    rfl
  · obtain ⟨F, v_tree, x_tree, rfl, P0, f_tree, hk⟩ := h
    have nd := sc_law_copied.nd
    have hu64 := hr.units
    have hu128 := hu128_of hr
    have O := P0.start
    refine ⟨_, (pss_one (ps_ret (pe_tup (pa_cons (pe_callTy (listOfK (K := K) rfl) (by rfl) nb.b_list (by decide +kernel) (pa_cons (pe_ix (ixTupK (K := K) rfl) (pv 0) pe_int (fun _ _ => rfl)) pa_nil)) (pa_cons (pe_callTy (listOfK (K := K) rfl) (by rfl) nb.b_list (by decide +kernel) (pa_cons (pe_ix (ixTupK (K := K) rfl) (pv 0) pe_int (fun _ _ => rfl)) pa_nil)) pa_nil))))), ?_⟩
    obtain ⟨p1, v4, v5, e2, h3, r6, r7⟩ := R.t2_ f_tree
    cases e2
    obtain ⟨p8, w9, e10, h11, hl12⟩ := R.lst_ r6
    cases e10
    refine ⟨_, rfl, _, _, _, _, rfl, rfl, (SqTF O.s h3), rfl, _, _, rfl, (.inl (SqLF O.s h11)), fun p13 hp14 => ?_⟩
    have hl20 : RL (a := Int) F w9 x_tree.1 := hl12
    obtain ⟨F15, O16, S17, h18⟩ := O.putE hp14 (.lst w9)
    have f_tree := f_tree.mono S17
    have h3 := S17 _ _ h3
    have r6 := r6.mono S17
    have r7 := r7.mono S17
    have h11 := S17 _ _ h11
    have hl12 := hl12.mono S17
    have hl20 := hl20.mono S17
    have h19 := R.lst (a := Int) h18 hl20
    obtain ⟨p21, w22, e23, h24, hl25⟩ := R.lst_ r7
    cases e23
    refine ⟨_, rfl, _, _, _, _, rfl, rfl, (SqTF O16.s h3), rfl, _, _, rfl, (.inl (SqLF O16.s h24)), fun p26 hp27 => ?_⟩
    have hl33 : RL (a := (T3 Int Int Int)) F15 w22 x_tree.2 := hl25
    obtain ⟨F28, O29, S30, h31⟩ := O16.putE hp27 (.lst w22)
    have f_tree := f_tree.mono S30
    have h3 := S30 _ _ h3
    have r6 := r6.mono S30
    have r7 := r7.mono S30
    have h11 := S30 _ _ h11
    have hl12 := hl12.mono S30
    have h19 := h19.mono S30
    have h24 := S30 _ _ h24
    have hl25 := hl25.mono S30
    have hl33 := hl33.mono S30
    have h32 := R.lst (a := (T3 Int Int Int)) h31 hl33
    refine ⟨(by show 2 ≤ sizeLine; decide), fun p34 hp35 => ?_⟩
    obtain ⟨F36, O37, S38, h39⟩ := O29.putE hp35 (.tup [V.ref p13, V.ref p26])
    have f_tree := f_tree.mono S38
    have h3 := S38 _ _ h3
    have r6 := r6.mono S38
    have r7 := r7.mono S38
    have h11 := S38 _ _ h11
    have hl12 := hl12.mono S38
    have h19 := h19.mono S38
    have h24 := S38 _ _ h24
    have hl25 := hl25.mono S38
    have h32 := h32.mono S38
    have h40 : R (a := ((List Int) × (List (T3 Int Int Int)))) F36 (.ref p34) (x_tree.1, x_tree.2) := R.t2 h39 h19 h32
    exact hk _ _  O37.g  _ h40
abbrev s_law_right : Stmt := top 19
theorem sc_law_right : FnScope ["tree", "one", "other", "handed", "lengths", "turn", "a", "b", "length", "found", "steps", "places", "step"] ["tree", "one", "other"] (defScope s_law_right) := ⟨rfl, rfl, rfl, by decide +kernel, rfl, by decide +kernel, by decide +kernel⟩
def m_law_right (x_tree : ((List Int) × (List (T3 Int Int Int)))) (x_one : Int) (x_other : Int) : M (Bool) :=
m_law_copied x_tree >>= fun r1 =>
loopN (fun (y27 : (T3 Int Int Int)) (st38 : (List ((Int × Int) × Int))) =>
putD st38 ((y27.a, y27.b).1, (y27.a, y27.b).2) y27.c >>= fun z72 =>
.ok z72) x_tree.2 ([] : (List ((Int × Int) × Int))) >>= fun st78 =>
chk (okR (2 : Int)) >>= fun _ =>
loopM (fun (y87 : Int) (st99 : Unit) =>
m_way_between r1 x_one x_other >>= fun r108 =>
if ((2 : Nat) : Int) ≠ (2 : Int) then (
.ok (.rt false))
else (
if r1 ≠ x_tree then (
.ok (.rt false))
else (
m_law_are_whole r108.1 >>= fun r131 =>
if r131 = true then (
m_law_whole r108.2 >>= fun r138 =>
if r138 = true then (
if r108.1 = ([] : List Int) then (
.ok (.rt false))
else (
opt (atI r108.1 (0 : Int)) >>= fun y154 =>
if y154 ≠ x_one then (
.ok (.rt false))
else (
opt (atI r108.1 (-(1 : Int))) >>= fun y160 =>
if y160 ≠ x_other then (
.ok (.rt false))
else (
chk (r108.1.Nodup ∧ r108.1.length < 64) >>= fun _ =>
if (r108.1.length : Int) < (r108.1.length : Int) then (
.ok (.rt false))
else (
compS (fun (y194 : (Int × Int)) (st211 : Unit) =>
.ok (some ((if y194.2 < y194.1 then y194.2 else y194.1), (if y194.2 > y194.1 then y194.2 else y194.1)), ())) (List.zip (cutL r108.1 none (some (-(1 : Int)))) (cutL r108.1 (some (1 : Int)) none)) () >>= fun q258 =>
compS (fun (y269 : (Int × Int)) (st286 : Unit) =>
if dHas st78 y269 = true then (
.ok (none, ()))
else (
.ok (some y269, ()))) q258.1 () >>= fun q314 =>
if q314.1 ≠ ([] : List (Int × Int)) then (
.ok (.rt false))
else (
compS (fun (y334 : (Int × Int)) (st351 : Unit) =>
opt (dGet st78 y334) >>= fun y357 =>
.ok (some y357, ())) q258.1 () >>= fun q380 =>
if (List.sum q380.1) ≠ r108.2 then (
.ok (.rt false))
else (
appL r108.1 (0 : Int) >>= fun _ =>
.ok (.nx ()))))))))
else (
.ok (.rt false)))
else (
.ok (.rt false))))) (rangeL 0 (2 : Int)) () >>= fun f409 => match f409 with
| .rt z_ => .ok z_
| .nx st400 =>
.ok true
def sp_law_right (mg : Str → Option Value) : Sp := fun vs H Q E => ∃ (F : Hp) (v_tree : V) (x_tree : ((List Int) × (List (T3 Int Int Int)))) (x_one : Int) (x_other : Int), vs = [v_tree, V.int x_one, V.int x_other] ∧ Pre F [] H ∧ R (a := ((List Int) × (List (T3 Int Int Int)))) F v_tree x_tree ∧
  wp (m_law_right x_tree x_one x_other) (fun r => ∀ (F' H' : Hp), Gr [] F H F' H' → Q (V.bl r) H')
  (fun n => ∀ (C : Addr) (H' : Hp), mg (Str.ofString n) = some (.ref C) → Kp [] H H' → E (.ref C) none H')
set_option maxHeartbeats 2000000 in
theorem ok_law_right (nb : Nb mg) (C_law_are_whole : Ca P w K mg base "_law_are_whole" 2 ["found"] (sp_law_are_whole mg)) (C_law_copied : Ca P w K mg base "_law_copied" 1 ["tree"] (sp_law_copied mg)) (C_law_whole : Ca P w K mg base "_law_whole" 1 ["found"] (sp_law_whole mg)) (C_way_between : Ca P w K mg base "way_between" 2 ["tree", "one", "other"] (sp_way_between mg)) (D : Df K mg "_law_right" "_law_right" s_law_right ["tree", "one", "other"]) : Ca P w K mg base "_law_right" 3 ["tree", "one", "other"] (sp_law_right mg) := by
  obtain ⟨fa_law_are_whole, fd_law_are_whole, G_law_are_whole, M_law_are_whole, K_law_are_whole, B_law_are_whole⟩ := C_law_are_whole.ex
  obtain ⟨fa_law_copied, fd_law_copied, G_law_copied, M_law_copied, K_law_copied, B_law_copied⟩ := C_law_copied.ex
  obtain ⟨fa_law_whole, fd_law_whole, G_law_whole, M_law_whole, K_law_whole, B_law_whole⟩ := C_law_whole.ex
  obtain ⟨fa_way_between, fd_way_between, G_way_between, M_way_between, K_way_between, B_way_between⟩ := C_way_between.ex
  refine Ca.mk' D sc_law_right (fun vs H Q E h => ?_) (fun q_ f_ cdv A outer s H vs Q E hr h => ?_)
  · obtain ⟨F, _, _, _, _, rfl, _⟩ := h
    rfl
  · obtain ⟨F, v_tree, x_tree, x_one, x_other, rfl, P0, f_tree, hk⟩ := h
    have nd := sc_law_right.nd
    have hu64 := hr.units
    have hu128 := hu128_of hr
    have O := P0.start
    refine ⟨_, (pss_cons (ps_set (i := 3) nd rfl (Or.inl rfl) (pe_call G_law_copied (hr.mono (by decide)) rfl M_law_copied K_law_copied B_law_copied .nil (passes_call (takes_of rfl rfl rfl rfl) fun _ _ _ _ h => h) (pa_cons (pv 0) pa_nil)))
  (pss_cons (ps_set (i := 4) nd rfl (Or.inr rfl) pe_dnewT)
  (pss_cons (ps_for (passes_of rfl) rfl (pi_list (pe_ix (ixTupK (K := K) rfl) (pv 0) pe_int (fun _ _ => rfl))) (pg_tup rfl (pgs_cons (pg_name (i := 6) nd rfl (Or.inl rfl)) (pgs_cons (pg_name (i := 7) nd rfl (Or.inl rfl)) (pgs_cons (pg_name (i := 8) nd rfl (Or.inl rfl)) pgs_nil)))) (pss_one (ps_dput (u1_of hu64) (pv 4) (pe_tup (pa_cons (pv 6) (pa_cons (pv 7) pa_nil))) (pv 8) rfl)))
  (pss_cons (ps_for (passes_of rfl) rfl (pi_range1 rfl nb.b_range (pa_cons pe_int pa_nil)) (pg_name (i := 5) nd rfl (Or.inl rfl)) (pss_cons (ps_set (i := 9) nd rfl (Or.inl rfl) (pe_call G_way_between (hr.mono (by decide)) rfl M_way_between K_way_between B_way_between .nil (passes_call (takes_of rfl rfl rfl rfl) fun _ _ _ _ h => h) (pa_cons (pv 3) (pa_cons (pv 1) (pa_cons (pv 2) pa_nil)))))
  (pss_cons (ps_if (PW.pt (pw_or (pt_not (pt_val (pe_callB (isiK (K := K) rfl) (by rfl) nb.b_isinstance (by decide +kernel) (pa_cons (pv 9) (pa_cons (pe_bltn (v := .ty "tuple") (by rfl) nb.b_tuple (by decide +kernel) rfl) pa_nil))))) (pw_or (pt_cmpR (op_neT Int hu64) (pe_callB call_lenT (by rfl) nb.b_len PySem.boot_len (pa_cons (pv 9) pa_nil)) pe_int (nomark _)) (pw_or1 (pt_cmpR (op_neT ((List Int) × (List (T3 Int Int Int))) hu64) (pv 3) (pv 0) (nomark _)))))) (pss_one (ps_ret pe_bl)) pss_nil)
  (pss_cons (ps_asg (pv 9) (pg_tup rfl (pgs_cons (pg_name (i := 11) nd rfl (Or.inl rfl)) (pgs_cons (pg_name (i := 8) nd rfl (Or.inl rfl)) pgs_nil))))
  (pss_cons (ps_if (PW.pt (pw_or (pt_not (pt_val (pe_call G_law_are_whole (hr.mono (by decide)) rfl M_law_are_whole K_law_are_whole B_law_are_whole .nil (passes_call (takes_of rfl rfl rfl rfl) fun _ _ _ _ h => h) (pa_cons (pv 11) pa_nil)))) (pw_or (pt_not (pt_val (pe_call G_law_whole (hr.mono (by decide)) rfl M_law_whole K_law_whole B_law_whole .nil (passes_call (takes_of rfl rfl rfl rfl) fun _ _ _ _ h => h) (pa_cons (pv 8) pa_nil)))) (pw_or1 (pt_cmpR (op_eqT (List Int) hu64) (pv 11) (pe_lst pa_nil) (nomark _)))))) (pss_one (ps_ret pe_bl)) pss_nil)
  (pss_cons (ps_if (PW.pt (pw_or (pt_cmpR (op_neT Int hu64) (pe_ix (ixListK (K := K) rfl) (pv 11) pe_int (fun _ _ => rfl)) (pv 1) (nomark _)) (pw_or (pt_cmpR (op_neT Int hu64) (pe_ix (ixListK (K := K) rfl) (pv 11) (pe_un un_neg pe_int) (fun _ _ => rfl)) (pv 2) (nomark _)) (pw_or1 (pt_cmpR op_lt (pe_lenSetI rfl (by rfl) nb.b_len (by rfl) nb.b_set (pv 11)) (pe_callB call_lenT (by rfl) nb.b_len PySem.boot_len (pa_cons (pv 11) pa_nil)) (nomark _)))))) (pss_one (ps_ret pe_bl)) pss_nil)
  (pss_cons (ps_setLc (i := 10) (own := [("a", 6), ("b", 7)]) (g := gTup K 2 (gCons (gName 6) (gCons (gName 7) (gNil)))) (tt := _) rfl nd rfl rfl (sw_true rfl rfl rfl (by decide +kernel)) (pi_zip rfl nb.b_zip (pa_cons (pe_slice (slListK (K := K) rfl) (pv 11) po_none (po_some (pe_un un_neg pe_int))) (pa_cons (pe_slice (slListK (K := K) rfl) (pv 11) (po_some pe_int) po_none) pa_nil))) (blkOk_by (own := [("a", 6), ("b", 7)]) (N := ["tree", "one", "other", "handed", "lengths", "turn", "a", "b", "length", "found", "steps", "places", "step"]) (sc := defScope s_law_right) (by decide +kernel)) (fun _ _ _ _ _ => (pg_tup rfl (pgs_cons (pg_name (i := 6) nd rfl (Or.inl rfl)) (pgs_cons (pg_name (i := 7) nd rfl (Or.inl rfl)) pgs_nil)))) (fun _ _ _ _ _ => pts_nil) (fun _ _ _ _ _ => (pe_tup (pa_cons (pe_callB (call_min2 rfl) (by rfl) nb.b_min (by decide +kernel) (pa_cons (pv 6) (pa_cons (pv 7) pa_nil))) (pa_cons (pe_callB (call_max2 rfl) (by rfl) nb.b_max (by decide +kernel) (pa_cons (pv 6) (pa_cons (pv 7) pa_nil))) pa_nil)))))
  (pss_cons (ps_if (PW.pt (pw_or (pt_cmpR (op_neT (List (Int × Int)) hu64) (pe_lc (own := [("step", 12)]) (g := gName 12) (tt := _) rfl nd (pi_list (pv 10)) (blkOk_by (own := [("step", 12)]) (N := ["tree", "one", "other", "handed", "lengths", "turn", "a", "b", "length", "found", "steps", "places", "step"]) (sc := defScope s_law_right) (by decide +kernel)) (fun _ _ _ _ _ => (pg_name (i := 12) nd rfl (Or.inl rfl))) (fun _ _ _ _ _ => (pts_one (pt_cmp (pc_dnotin (u1_of hu64) (pv 12) (pv 4))))) (fun _ _ _ _ _ => (pv 12))) (pe_lst pa_nil) (nomark _)) (pw_or1 (pt_cmpR (op_neT Int hu64) (pe_callB (cr_sumK (K := K) rfl rfl) (by rfl) nb.b_sum (by decide +kernel) (pa_cons (pe_lc (own := [("step", 12)]) (g := gName 12) (tt := _) rfl nd (pi_list (pv 10)) (blkOk_by (own := [("step", 12)]) (N := ["tree", "one", "other", "handed", "lengths", "turn", "a", "b", "length", "found", "steps", "places", "step"]) (sc := defScope s_law_right) (by decide +kernel)) (fun _ _ _ _ _ => (pg_name (i := 12) nd rfl (Or.inl rfl))) (fun _ _ _ _ _ => pts_nil) (fun _ _ _ _ _ => (pe_dget (u1_of hu64) (pv 4) (pv 12) (fun _ _ => rfl)))) pa_nil)) (pv 8) (nomark _))))) (pss_one (ps_ret pe_bl)) pss_nil)
  (pss_one (ps_expr (pe_bm PySem.F.plainAttrs_list PySem.F.slot_list_append PySem.F.type_list_append mt_append (pv 11) (pa_cons pe_int pa_nil))))))))))))
  (pss_one (ps_ret pe_bl)))))), ?_⟩
    refine ⟨_, rfl, _, _, _, rfl, O.pre0, f_tree, wp_call hk (fun r1 er2 hk F3 H4 g5 v6 r7 => ?_) (fun n hn C H1 hC kp => hn C H1 hC (O.kp0 kp))⟩
    have O8 := O.call0 g5
    have S_ := g5.f
    have f_tree := f_tree.mono S_
    refine fun p10 hp11 => ?_
    have hl13 : RD (κ := (Int × Int)) (β := Int) F3 [] ([] : (List ((Int × Int) × Int))) := RD.nil
    have z14 := O8.was hp11
    have O12 := O8.new (o := .dT []) hp11
    obtain ⟨p15, v18, v19, e16, h17, r20, r21⟩ := R.t2_ f_tree
    cases e16
    obtain ⟨p22, w23, e24, h25, hl26⟩ := R.lst_ r21
    cases e24
    obtain ⟨L28, hL29, hLs30, hLd31⟩ := loopN_L hk
    refine ⟨_, rfl, _, _, _, _, rfl, rfl, (SqTF O12.s h17), rfl, _, rfl, ⟨_, (SqLF O12.s h25)⟩, ?_⟩
    refine for_list (K := K) (xs := w23) (fun i σ H => ∃ (F_ : Hp) (st : (List ((Int × Int) × Int))) (w_0 : (List (List Key × V))) (t_0 : Option V) (t_1 : Option V) (t_2 : Option V), σ = [some (V.ref p15), some (V.int x_one), some (V.int x_other), some v6, some (V.ref p10), none, t_0, t_1, t_2, none, none, none, none] ∧ Same F3 F_ ∧ Ow _ F_ [(p10, .dT w_0)] H ∧ RD (κ := (Int × Int)) (β := Int) F_ w_0 st ∧ L28 (List.drop i x_tree.2) st) ⟨F3, ([] : (List ((Int × Int) × Int))), [], none, none, none, rfl, Same.refl _, O12, hl13, hL29⟩ (fun i_ σ_ H_ _ hp_ => ?_) ?_ ?_
    · obtain ⟨_, _, _, _, _, _, _, hS_, hO_, _⟩ := hp_
      exact SqLF hO_.s (hS_ _ _ h25)
    · rintro i32 x33 sg34 H35 hi36 ⟨F44, st38, w39, t41, t42, t43, rfl, S37, O45, hl40, hL29⟩
      have f_tree := f_tree.mono S37
      have r7 := r7.mono S37
      have h17 := S37 _ _ h17
      have r20 := r20.mono S37
      have r21 := r21.mono S37
      have h25 := S37 _ _ h25
      have hl26 := hl26.mono S37
      obtain ⟨y27, e46, r47⟩ := RL.got hl26 hi36
      rw [drop_at e46] at hL29
      have hk := hLs30 _ _ _ hL29
      obtain ⟨p48, v51, v52, v53, e49, h50, r54, r55, r56⟩ := R.t3_ r47
      cases e49
      obtain rfl := R.int_ r54
      obtain rfl := R.int_ r55
      obtain rfl := R.int_ r56
      refine ⟨_, _, rfl, (SqTF O45.s h50), rfl, _, _, rfl, _, _, rfl, _, _, rfl, rfl, _, rfl, _, rfl, _, rfl, _, rfl, (by show 2 ≤ sizeLine; decide), fun p57 hp58 => ?_⟩
      obtain ⟨F59, O60, S61, h62⟩ := O45.putE hp58 (.tup [V.int y27.a, V.int y27.b])
      have f_tree := f_tree.mono S61
      have r7 := r7.mono S61
      have h17 := S61 _ _ h17
      have r20 := r20.mono S61
      have r21 := r21.mono S61
      have h25 := S61 _ _ h25
      have hl26 := hl26.mono S61
      have hl40 := hl40.mono S61
      have S37 := S37.trans S61
      have r47 := r47.mono S61
      have h50 := S61 _ _ h50
      have h63 : R (a := (Int × Int)) F59 (.ref p57) (y27.a, y27.b) := R.t2 h62 R.int R.int
      obtain ⟨p64, v67, v68, e65, h66, r69, r70⟩ := R.t2_ h63
      cases e65
      obtain rfl := R.int_ r69
      obtain rfl := R.int_ r70
      obtain ⟨c71, hk⟩ := wp_putD hk
      refine ⟨_, _, rfl, (dput_T (v := (V.int y27.c)) (O60.at 0 rfl) (O60.s _ _ h66) (by rw [RD.len hl40]; exact c71)), ?_⟩
      have O73 := O60.set 0 (.dT (putK w39 (DK.kk ((y27.a, y27.b).1, (y27.a, y27.b).2)) (V.int y27.c))) rfl
      have hl74 : RD (κ := (Int × Int)) (β := Int) F59 (putK w39 (DK.kk ((y27.a, y27.b).1, (y27.a, y27.b).2)) (V.int y27.c)) (dPut st38 ((y27.a, y27.b).1, (y27.a, y27.b).2) y27.c) := RD.put hl40 ((y27.a, y27.b).1, (y27.a, y27.b).2) R.int
      exact ⟨F59, (dPut st38 ((y27.a, y27.b).1, (y27.a, y27.b).2) y27.c), (putK w39 (DK.kk ((y27.a, y27.b).1, (y27.a, y27.b).2)) (V.int y27.c)), some (V.int y27.a), some (V.int y27.b), some (V.int y27.c), rfl, S37, O73, hl74, hk⟩
    rintro sg75 H76 ⟨F85, st78, w80, t82, t83, t84, rfl, S77, O86, hl81, hL79⟩
    rw [drop_end hl26.len] at hL79
    have hk := hLd31 _ hL79
    have f_tree := f_tree.mono S77
    have r7 := r7.mono S77
    have h17 := S77 _ _ h17
    have r20 := r20.mono S77
    have r21 := r21.mono S77
    have h25 := S77 _ _ h25
    have hl26 := hl26.mono S77
    obtain ⟨c88, hk⟩ := wp_chk hk
    obtain ⟨L89, hL90, hLs91, hLd92⟩ := loopM_L hk
    refine ⟨_, rfl, c88.lo, c88.hi, ?_⟩
    refine for_range (lo := 0) (n := ((2 : Int)).toNat) (fun i σ H => ∃ (F_ : Hp) (st : Unit) (t_0 : Option V) (t_1 : Option V) (t_2 : Option V) (t_3 : Option V) (t_4 : Option V), σ = [some (V.ref p15), some (V.int x_one), some (V.int x_other), some v6, some (V.ref p10), t_0, t82, t83, t_4, t_1, t_2, t_3, none] ∧ Same F85 F_ ∧ Ow _ F_ [(p10, .dT w80)] H ∧ L89 (List.drop i (rangeL 0 (2 : Int))) st) ⟨F85, (), none, none, none, none, t84, rfl, Same.refl _, O86, hL90⟩ ?_ ?_
    · rintro i93 sg95 H96 hi97 ⟨F105, st99, t100, t101, t102, t103, t104, rfl, S98, O106, hL90⟩
      have f_tree := f_tree.mono S98
      have r7 := r7.mono S98
      have h17 := S98 _ _ h17
      have r20 := r20.mono S98
      have r21 := r21.mono S98
      have h25 := S98 _ _ h25
      have hl26 := hl26.mono S98
      have hl81 := hl81.mono S98
      rw [rangeL_get0 hi97] at hL90
      have hk := hLs91 _ _ _ hL90
      obtain ⟨y87, he_⟩ : ∃ z_, z_ = 0 + (i93 : Int) := ⟨_, rfl⟩
      try rw [← he_] at hk
      rw [← he_]
      refine ⟨_, rfl, _, rfl, _, rfl, _, _, _, _, _, rfl, O106.pre0, r7, wp_call hk (fun r108 er109 hk F110 H111 g112 p113 p114 w115 hn116 hf117 h118 hl119 h121 => ?_) (fun n hn C H1 hC kp => hn C H1 hC (O106.kp0 kp))⟩
      have O122 := O106.call0 g112
      have S_ := g112.f
      have f_tree := f_tree.mono S_
      have r7 := r7.mono S_
      have h17 := S_ _ _ h17
      have r20 := r20.mono S_
      have r21 := r21.mono S_
      have h25 := S_ _ _ h25
      have hl26 := hl26.mono S_
      have hl81 := hl81.mono S_
      have S98 := S98.trans S_
      have z124 := O106.was hn116
      have O123 := O122.add' (O106.fresh hn116) z124 hf117 h118
      refine ⟨_, rfl, _, _, _, _, true, rfl, .ty _, (.base (.tup (O123.s _ _ h121))), kit_ty (by decide +kernel), _, rfl, ?_⟩
      refine iteNT ?_
      refine ⟨_, rfl, _, _, _, rfl, (.inr (O123.s _ _ h121)), rfl, _, _, R.int, R.int, _, rfl, ?_⟩
      refine iteD (fun q126 => ?_) (fun q126 => ?_)
      · have hk := wp_if hk q126
        refine iteT ?_
        exact hk _ _  O123.g 
      · have hk := wp_el hk q126
        refine ⟨_, rfl, _, rfl, _, _, (R.mono r7 O123.s), (R.mono f_tree O123.s), _, rfl, ?_⟩
        refine iteD (fun q127 => ?_) (fun q127 => ?_)
        · have hk := wp_if hk q127
          exact hk _ _  O123.g 
        · have hk := wp_el hk q127
          have hi128 : ∀ b ∈ ([p114] : List Addr), ∃ o, (b, o) ∈ ([(p114, .lst w115), (p10, .dT w80)] : List (Addr × HO)) := (inA_cons 0 rfl inA_nil)
          have S129 := O123.lendS hi128
          have h130 := R.lst (a := Int) ((lendF_at (by simp)).trans (O123.at 0 rfl) : lendF [p114] F110 _ p114 = some (.lst w115)) (hl119.mono S129)
          refine ⟨_, rfl, _, _, rfl, (SqTF O123.s h121), rfl, _, _, rfl, _, _, rfl, rfl, _, rfl, _, _, _, rfl, (O123.lendP hi128), h130, wp_call hk (fun r131 er132 hk F133 H134 g135 => ?_) (fun n hn C H1 hC kp => hn C H1 hC (O123.kp0 kp))⟩
          have O136 := O123.borrow S129 g135
          refine ⟨_, rfl, ?_⟩
          refine iteBN (fun q137 => ?_) (fun q137 => ?_)
          · have hk := wp_if hk q137
            refine ⟨_, rfl, _, _, rfl, O136.pre0, wp_call hk (fun r138 er139 hk F140 H141 g142 => ?_) (fun n hn C H1 hC kp => hn C H1 hC (O136.kp0 kp))⟩
            have O143 := O136.call0 g142
            have S_ := g142.f
            have f_tree := f_tree.mono S_
            have r7 := r7.mono S_
            have h17 := S_ _ _ h17
            have r20 := r20.mono S_
            have r21 := r21.mono S_
            have h25 := S_ _ _ h25
            have hl26 := hl26.mono S_
            have hl81 := hl81.mono S_
            have S98 := S98.trans S_
            have hl119 := hl119.mono S_
            have h121 := S_ _ _ h121
            refine ⟨_, rfl, ?_⟩
            refine iteBN (fun q144 => ?_) (fun q144 => ?_)
            · have hk := wp_if hk q144
              refine ⟨_, rfl, (by show 0 ≤ sizeLine; decide), fun p145 hp146 => ?_⟩
              have hl152 : RL (a := Int) F140 ([]) ([] : List Int) := RL.nil
              obtain ⟨F147, O148, S149, h150⟩ := O143.putE hp146 (.lst ([]))
              have f_tree := f_tree.mono S149
              have r7 := r7.mono S149
              have h17 := S149 _ _ h17
              have r20 := r20.mono S149
              have r21 := r21.mono S149
              have h25 := S149 _ _ h25
              have hl26 := hl26.mono S149
              have hl81 := hl81.mono S149
              have S98 := S98.trans S149
              have hl119 := hl119.mono S149
              have h121 := S149 _ _ h121
              have hl152 := hl152.mono S149
              have h151 := R.lst (a := Int) h150 hl152
              refine ⟨_, _, (R.lst (a := Int) (O148.at 0 rfl) (hl119.mono O148.s)), (R.mono h151 O148.s), _, rfl, ?_⟩
              refine iteD (fun q153 => ?_) (fun q153 => ?_)
              · have hk := wp_if hk q153
                exact hk _ _  O148.g 
              · have hk := wp_el hk q153
                obtain ⟨y154, e155, hk⟩ := wp_opt hk
                obtain ⟨w156, e157, r158⟩ := hl119.atI e155
                obtain rfl := R.int_ r158
                refine ⟨_, rfl, _, _, _, _, rfl, rfl, (SqL.of (O148.at 0 rfl)), e157, _, rfl, _, _, R.int, R.int, _, rfl, ?_⟩
                refine iteD (fun q159 => ?_) (fun q159 => ?_)
                · have hk := wp_if hk q159
                  refine iteT ?_
                  exact hk _ _  O148.g 
                · have hk := wp_el hk q159
                  obtain ⟨y160, e161, hk⟩ := wp_opt hk
                  obtain ⟨w162, e163, r164⟩ := hl119.atI e161
                  obtain rfl := R.int_ r164
                  refine ⟨_, rfl, _, rfl, _, _, _, _, rfl, rfl, (SqL.of (O148.at 0 rfl)), e163, _, rfl, _, _, R.int, R.int, _, rfl, ?_⟩
                  refine iteD (fun q165 => ?_) (fun q165 => ?_)
                  · have hk := wp_if hk q165
                    refine iteT ?_
                    exact hk _ _  O148.g 
                  · have hk := wp_el hk q165
                    obtain ⟨c166, hk⟩ := wp_chk hk
                    refine ⟨_, rfl, _, r108.1, rfl, (by rw [← RL.ints hl119]; exact (SqL.of (O148.at 0 rfl))), c166.2, c166.1, _, rfl, _, _, _, rfl, (.inl (O148.at 0 rfl)), hl119.len, _, _, rfl, rfl, _, rfl, ?_⟩
                    refine iteD (fun q167 => ?_) (fun q167 => ?_)
                    · have hk := wp_if hk q167
                      exact hk _ _  O148.g 
                    · have hk := wp_el hk q167
                      refine ⟨_, rfl, _, rfl, _, rfl, _, _, rfl, (SqL.of (O148.at 0 rfl)), fun p168 hp169 => ?_⟩
                      have hl175 : RL (a := Int) F147 (cutV w115 none (some (-(1 : Int)))) (cutL r108.1 none (some (-(1 : Int)))) := RL.cutL hl119 none (some (-(1 : Int)))
                      obtain ⟨F170, O171, S172, h173⟩ := O148.putE hp169 (.lst (cutV w115 none (some (-(1 : Int)))))
                      have f_tree := f_tree.mono S172
                      have r7 := r7.mono S172
                      have h17 := S172 _ _ h17
                      have r20 := r20.mono S172
                      have r21 := r21.mono S172
                      have h25 := S172 _ _ h25
                      have hl26 := hl26.mono S172
                      have hl81 := hl81.mono S172
                      have S98 := S98.trans S172
                      have hl119 := hl119.mono S172
                      have h121 := S172 _ _ h121
                      have h151 := h151.mono S172
                      have hl175 := hl175.mono S172
                      have h174 := R.lst (a := Int) h173 hl175
                      refine ⟨_, rfl, _, rfl, _, _, rfl, (SqL.of (O171.at 0 rfl)), fun p176 hp177 => ?_⟩
                      have hl183 : RL (a := Int) F170 (cutV w115 (some (1 : Int)) none) (cutL r108.1 (some (1 : Int)) none) := RL.cutL hl119 (some (1 : Int)) none
                      obtain ⟨F178, O179, S180, h181⟩ := O171.putE hp177 (.lst (cutV w115 (some (1 : Int)) none))
                      have f_tree := f_tree.mono S180
                      have r7 := r7.mono S180
                      have h17 := S180 _ _ h17
                      have r20 := r20.mono S180
                      have r21 := r21.mono S180
                      have h25 := S180 _ _ h25
                      have hl26 := hl26.mono S180
                      have hl81 := hl81.mono S180
                      have S98 := S98.trans S180
                      have hl119 := hl119.mono S180
                      have h121 := S180 _ _ h121
                      have h151 := h151.mono S180
                      have h174 := h174.mono S180
                      have hl183 := hl183.mono S180
                      have h182 := R.lst (a := Int) h181 hl183
                      obtain ⟨p184, w185, e186, h187, hl188⟩ := R.lst_ h174
                      cases e186
                      obtain ⟨p189, w190, e191, h192, hl193⟩ := R.lst_ h182
                      cases e191
                      obtain ⟨c199, L195, hL196, hLs197, hLd198⟩ := compS_L hk
                      refine ⟨_, _, _, _, rfl, (SqLF O179.s h187), (SqLF O179.s h192), fun p200 hp201 => ?_⟩
                      have z247 := O179.was hp201
                      refine lc_it (walk_zip (K := K) (xs := w185) (ys := w190) rfl) (fun i H => ∃ (F_ : Hp) (st : Unit) (acc : List (Int × Int)) (wa : List V), Same F178 F_ ∧ Ow _ F_ [(p200, .lst wa), (p114, .lst w115), (p10, .dT w80)] H ∧ RL F_ wa acc ∧ wa.length ≤ i ∧ L195 (List.drop i (List.zip (cutL r108.1 none (some (-(1 : Int)))) (cutL r108.1 (some (1 : Int)) none))) acc st) ⟨F178, (), [], [], Same.refl _, O179.new hp201, RL.nil, Nat.zero_le _, hL196⟩ (fun i_ H_ _ hp_ => ?_) ?_ ?_
                      · obtain ⟨_, _, _, _, hS_, hO_, _⟩ := hp_
                        exact ⟨SqLF hO_.s (hS_ _ _ h187), SqLF hO_.s (hS_ _ _ h192)⟩
                      · rintro i202 _ H204 _ hi205 ⟨F210, st211, acc207, wa208, S212, O214, hl213, la209, hL196⟩ ⟨T215, x216, y217, rfl, hT218, rfl, hx219, hy220⟩
                        have f_tree := f_tree.mono S212
                        have r7 := r7.mono S212
                        have h17 := S212 _ _ h17
                        have r20 := r20.mono S212
                        have r21 := r21.mono S212
                        have h25 := S212 _ _ h25
                        have hl26 := hl26.mono S212
                        have hl81 := hl81.mono S212
                        have S98 := S98.trans S212
                        have hl119 := hl119.mono S212
                        have h121 := S212 _ _ h121
                        have h151 := h151.mono S212
                        have h174 := h174.mono S212
                        have h182 := h182.mono S212
                        have h187 := S212 _ _ h187
                        have hl188 := hl188.mono S212
                        have h192 := S212 _ _ h192
                        have hl193 := hl193.mono S212
                        obtain ⟨y221, e222, r223⟩ := RL.got hl188 hx219
                        obtain ⟨y224, e225, r226⟩ := RL.got hl193 hy220
                        rw [zip_at e222 e225] at hL196
                        have hk := hLs197 _ _ _ _ hL196
                        obtain ⟨F227, O228, S229, h230⟩ := O214.putE hT218 (.tup [x216, y217])
                        have f_tree := f_tree.mono S229
                        have r7 := r7.mono S229
                        have h17 := S229 _ _ h17
                        have r20 := r20.mono S229
                        have r21 := r21.mono S229
                        have h25 := S229 _ _ h25
                        have hl26 := hl26.mono S229
                        have hl81 := hl81.mono S229
                        have S98 := S98.trans S229
                        have hl119 := hl119.mono S229
                        have h121 := S229 _ _ h121
                        have h151 := h151.mono S229
                        have h174 := h174.mono S229
                        have h182 := h182.mono S229
                        have h187 := S229 _ _ h187
                        have hl188 := hl188.mono S229
                        have h192 := S229 _ _ h192
                        have hl193 := hl193.mono S229
                        have S212 := S212.trans S229
                        have hl213 := hl213.mono S229
                        have r223 := r223.mono S229
                        have r226 := r226.mono S229
                        obtain ⟨y194, he232⟩ : ∃ z_, z_ = (y221, y224) := ⟨_, rfl⟩
                        try rw [← he232] at hk
                        have h231 : R (a := (Int × Int)) F227 (.ref T215) y194 := by rw [he232]; exact R.t2 h230 r223 r226
                        obtain ⟨p233, v236, v237, e234, h235, r238, r239⟩ := R.t2_ h231
                        cases e234
                        obtain rfl := R.int_ r238
                        obtain rfl := R.int_ r239
                        refine ⟨_, _, rfl, (SqTF O228.s h235), rfl, _, _, rfl, _, _, rfl, rfl, rfl, ?_⟩
                        refine ⟨_, rfl, _, rfl, _, _, rfl, _, rfl, _, rfl, _, _, rfl, (by show 2 ≤ sizeLine; decide), fun p240 hp241 => ?_⟩
                        obtain ⟨F242, O243, S244, h245⟩ := O228.putE hp241 (.tup [V.int (if y194.2 < y194.1 then y194.2 else y194.1), V.int (if y194.2 > y194.1 then y194.2 else y194.1)])
                        have f_tree := f_tree.mono S244
                        have r7 := r7.mono S244
                        have h17 := S244 _ _ h17
                        have r20 := r20.mono S244
                        have r21 := r21.mono S244
                        have h25 := S244 _ _ h25
                        have hl26 := hl26.mono S244
                        have hl81 := hl81.mono S244
                        have S98 := S98.trans S244
                        have hl119 := hl119.mono S244
                        have h121 := S244 _ _ h121
                        have h151 := h151.mono S244
                        have h174 := h174.mono S244
                        have h182 := h182.mono S244
                        have h187 := S244 _ _ h187
                        have hl188 := hl188.mono S244
                        have h192 := S244 _ _ h192
                        have hl193 := hl193.mono S244
                        have S212 := S212.trans S244
                        have hl213 := hl213.mono S244
                        have r223 := r223.mono S244
                        have r226 := r226.mono S244
                        have h231 := h231.mono S244
                        have h235 := S244 _ _ h235
                        have h246 : R (a := (Int × Int)) F242 (.ref p240) ((if y194.2 < y194.1 then y194.2 else y194.1), (if y194.2 > y194.1 then y194.2 else y194.1)) := R.t2 h245 R.int R.int
                        refine ⟨_, (O243.at 0 rfl), (comp_lenZ la209 hi205 hl188.len hl193.len c199), ?_⟩
                        exact ⟨F242, (), acc207 ++ [((if y194.2 < y194.1 then y194.2 else y194.1), (if y194.2 > y194.1 then y194.2 else y194.1))], wa208 ++ [V.ref p240], S212, O243.set 0 (.lst (wa208 ++ [V.ref p240])) rfl, RL.snoc hl213 h246, by rw [List.length_append]; exact Nat.succ_le_succ la209, hk⟩
                      rintro H248 ⟨F249, st250, acc251, wa252, S253, O254, hl255, la256, hL257⟩
                      rw [zip_end hl188.len hl193.len] at hL257
                      have hk := hLd198 _ _ hL257
                      have f_tree := f_tree.mono S253
                      have r7 := r7.mono S253
                      have h17 := S253 _ _ h17
                      have r20 := r20.mono S253
                      have r21 := r21.mono S253
                      have h25 := S253 _ _ h25
                      have hl26 := hl26.mono S253
                      have hl81 := hl81.mono S253
                      have S98 := S98.trans S253
                      have hl119 := hl119.mono S253
                      have h121 := S253 _ _ h121
                      have h151 := h151.mono S253
                      have h174 := h174.mono S253
                      have h182 := h182.mono S253
                      have h187 := S253 _ _ h187
                      have hl188 := hl188.mono S253
                      have h192 := S253 _ _ h192
                      have hl193 := hl193.mono S253
                      obtain ⟨F259, O260, S261, h262⟩ := O254.frzE 0 rfl z247
                      have f_tree := f_tree.mono S261
                      have r7 := r7.mono S261
                      have h17 := S261 _ _ h17
                      have r20 := r20.mono S261
                      have r21 := r21.mono S261
                      have h25 := S261 _ _ h25
                      have hl26 := hl26.mono S261
                      have hl81 := hl81.mono S261
                      have S98 := S98.trans S261
                      have hl119 := hl119.mono S261
                      have h121 := S261 _ _ h121
                      have h151 := h151.mono S261
                      have h174 := h174.mono S261
                      have h182 := h182.mono S261
                      have h187 := S261 _ _ h187
                      have hl188 := hl188.mono S261
                      have h192 := S261 _ _ h192
                      have hl193 := hl193.mono S261
                      have hl255 := hl255.mono S261
                      have h263 := R.lst (a := (Int × Int)) h262 hl255
                      obtain ⟨p264, w265, e266, h267, hl268⟩ := R.lst_ h263
                      cases e266
                      obtain ⟨c274, L270, hL271, hLs272, hLd273⟩ := compS_L hk
                      refine ⟨_, rfl, _, rfl, ⟨_, (SqLF O260.s h267)⟩, fun p275 hp276 => ?_⟩
                      have z303 := O260.was hp276
                      refine lc_list (K := K) (xs := w265) (fun i H => ∃ (F_ : Hp) (st : Unit) (acc : List (Int × Int)) (wa : List V), Same F259 F_ ∧ Ow _ F_ [(p275, .lst wa), (p114, .lst w115), (p10, .dT w80)] H ∧ RL F_ wa acc ∧ wa.length ≤ i ∧ L270 (List.drop i acc251) acc st) ⟨F259, (), [], [], Same.refl _, O260.new hp276, RL.nil, Nat.zero_le _, hL271⟩ (fun i_ H_ _ hp_ => ?_) ?_ ?_
                      · obtain ⟨_, _, _, _, hS_, hO_, _⟩ := hp_
                        exact SqLF hO_.s (hS_ _ _ h267)
                      · rintro i277 x278 H279 hi280 ⟨F285, st286, acc282, wa283, S287, O289, hl288, la284, hL271⟩
                        have f_tree := f_tree.mono S287
                        have r7 := r7.mono S287
                        have h17 := S287 _ _ h17
                        have r20 := r20.mono S287
                        have r21 := r21.mono S287
                        have h25 := S287 _ _ h25
                        have hl26 := hl26.mono S287
                        have hl81 := hl81.mono S287
                        have S98 := S98.trans S287
                        have hl119 := hl119.mono S287
                        have h121 := S287 _ _ h121
                        have h151 := h151.mono S287
                        have h174 := h174.mono S287
                        have h182 := h182.mono S287
                        have h187 := S287 _ _ h187
                        have hl188 := hl188.mono S287
                        have h192 := S287 _ _ h192
                        have hl193 := hl193.mono S287
                        have h263 := h263.mono S287
                        have h267 := S287 _ _ h267
                        have hl268 := hl268.mono S287
                        obtain ⟨y269, e290, r291⟩ := RL.got hl268 hi280
                        rw [drop_at e290] at hL271
                        have hk := hLs272 _ _ _ _ hL271
                        obtain ⟨p292, v295, v296, e293, h294, r297, r298⟩ := R.t2_ r291
                        cases e293
                        obtain rfl := R.int_ r297
                        obtain rfl := R.int_ r298
                        obtain ⟨o299, hg300, ho301⟩ := din_T (O289.at 2 rfl) (O289.s _ _ h294) hl81
                        refine ⟨rfl, _, rfl, _, rfl, _, _, rfl, hg300, ?_⟩
                        rw [ho301]
                        refine ⟨_, rfl, ?_⟩
                        refine iteBN (fun q302 => ?_) (fun q302 => ?_)
                        · have hk := wp_if hk q302
                          exact ⟨F285, (), acc282, wa283, S287, O289, hl288, Nat.le_succ_of_le la284, hk⟩
                        · have hk := wp_el hk q302
                          refine ⟨_, rfl, _, (O289.at 0 rfl), (comp_len la284 hi280 hl268.len c274), ?_⟩
                          exact ⟨F285, (), acc282 ++ [y269], wa283 ++ [V.ref p292], S287, O289.set 0 (.lst (wa283 ++ [V.ref p292])) rfl, RL.snoc hl288 r291, by rw [List.length_append]; exact Nat.succ_le_succ la284, hk⟩
                      rintro H304 ⟨F305, st306, acc307, wa308, S309, O310, hl311, la312, hL313⟩
                      rw [drop_end hl268.len] at hL313
                      have hk := hLd273 _ _ hL313
                      have f_tree := f_tree.mono S309
                      have r7 := r7.mono S309
                      have h17 := S309 _ _ h17
                      have r20 := r20.mono S309
                      have r21 := r21.mono S309
                      have h25 := S309 _ _ h25
                      have hl26 := hl26.mono S309
                      have hl81 := hl81.mono S309
                      have S98 := S98.trans S309
                      have hl119 := hl119.mono S309
                      have h121 := S309 _ _ h121
                      have h151 := h151.mono S309
                      have h174 := h174.mono S309
                      have h182 := h182.mono S309
                      have h187 := S309 _ _ h187
                      have hl188 := hl188.mono S309
                      have h192 := S309 _ _ h192
                      have hl193 := hl193.mono S309
                      have h263 := h263.mono S309
                      have h267 := S309 _ _ h267
                      have hl268 := hl268.mono S309
                      obtain ⟨F315, O316, S317, h318⟩ := O310.frzE 0 rfl z303
                      have f_tree := f_tree.mono S317
                      have r7 := r7.mono S317
                      have h17 := S317 _ _ h17
                      have r20 := r20.mono S317
                      have r21 := r21.mono S317
                      have h25 := S317 _ _ h25
                      have hl26 := hl26.mono S317
                      have hl81 := hl81.mono S317
                      have S98 := S98.trans S317
                      have hl119 := hl119.mono S317
                      have h121 := S317 _ _ h121
                      have h151 := h151.mono S317
                      have h174 := h174.mono S317
                      have h182 := h182.mono S317
                      have h187 := S317 _ _ h187
                      have hl188 := hl188.mono S317
                      have h192 := S317 _ _ h192
                      have hl193 := hl193.mono S317
                      have h263 := h263.mono S317
                      have h267 := S317 _ _ h267
                      have hl268 := hl268.mono S317
                      have hl311 := hl311.mono S317
                      have h319 := R.lst (a := (Int × Int)) h318 hl311
                      refine ⟨(by show 0 ≤ sizeLine; decide), fun p320 hp321 => ?_⟩
                      have hl327 : RL (a := (Int × Int)) F315 ([]) ([] : List (Int × Int)) := RL.nil
                      obtain ⟨F322, O323, S324, h325⟩ := O316.putE hp321 (.lst ([]))
                      have f_tree := f_tree.mono S324
                      have r7 := r7.mono S324
                      have h17 := S324 _ _ h17
                      have r20 := r20.mono S324
                      have r21 := r21.mono S324
                      have h25 := S324 _ _ h25
                      have hl26 := hl26.mono S324
                      have hl81 := hl81.mono S324
                      have S98 := S98.trans S324
                      have hl119 := hl119.mono S324
                      have h121 := S324 _ _ h121
                      have h151 := h151.mono S324
                      have h174 := h174.mono S324
                      have h182 := h182.mono S324
                      have h187 := S324 _ _ h187
                      have hl188 := hl188.mono S324
                      have h192 := S324 _ _ h192
                      have hl193 := hl193.mono S324
                      have h263 := h263.mono S324
                      have h267 := S324 _ _ h267
                      have hl268 := hl268.mono S324
                      have h319 := h319.mono S324
                      have hl327 := hl327.mono S324
                      have h326 := R.lst (a := (Int × Int)) h325 hl327
                      refine ⟨_, _, (R.mono h319 O323.s), (R.mono h326 O323.s), _, rfl, ?_⟩
                      refine iteD (fun q328 => ?_) (fun q328 => ?_)
                      · have hk := wp_if hk q328
                        refine iteT ?_
                        exact hk _ _  O323.g 
                      · have hk := wp_el hk q328
                        obtain ⟨p329, w330, e331, h332, hl333⟩ := R.lst_ h263
                        cases e331
                        obtain ⟨c339, L335, hL336, hLs337, hLd338⟩ := compS_L hk
                        refine ⟨_, rfl, _, rfl, ⟨_, (SqLF O323.s h332)⟩, fun p340 hp341 => ?_⟩
                        have z369 := O323.was hp341
                        refine lc_list (K := K) (xs := w330) (fun i H => ∃ (F_ : Hp) (st : Unit) (acc : List Int) (wa : List V), Same F322 F_ ∧ Ow _ F_ [(p340, .lst wa), (p114, .lst w115), (p10, .dT w80)] H ∧ RL F_ wa acc ∧ wa.length ≤ i ∧ L335 (List.drop i acc251) acc st) ⟨F322, (), [], [], Same.refl _, O323.new hp341, RL.nil, Nat.zero_le _, hL336⟩ (fun i_ H_ _ hp_ => ?_) ?_ ?_
                        · obtain ⟨_, _, _, _, hS_, hO_, _⟩ := hp_
                          exact SqLF hO_.s (hS_ _ _ h332)
                        · rintro i342 x343 H344 hi345 ⟨F350, st351, acc347, wa348, S352, O354, hl353, la349, hL336⟩
                          have f_tree := f_tree.mono S352
                          have r7 := r7.mono S352
                          have h17 := S352 _ _ h17
                          have r20 := r20.mono S352
                          have r21 := r21.mono S352
                          have h25 := S352 _ _ h25
                          have hl26 := hl26.mono S352
                          have hl81 := hl81.mono S352
                          have S98 := S98.trans S352
                          have hl119 := hl119.mono S352
                          have h121 := S352 _ _ h121
                          have h151 := h151.mono S352
                          have h174 := h174.mono S352
                          have h182 := h182.mono S352
                          have h187 := S352 _ _ h187
                          have hl188 := hl188.mono S352
                          have h192 := S352 _ _ h192
                          have hl193 := hl193.mono S352
                          have h263 := h263.mono S352
                          have h267 := S352 _ _ h267
                          have hl268 := hl268.mono S352
                          have h319 := h319.mono S352
                          have h326 := h326.mono S352
                          have h332 := S352 _ _ h332
                          have hl333 := hl333.mono S352
                          obtain ⟨y334, e355, r356⟩ := RL.got hl333 hi345
                          rw [drop_at e355] at hL336
                          have hk := hLs337 _ _ _ _ hL336
                          refine ⟨rfl, ?_⟩
                          obtain ⟨p362, v365, v366, e363, h364, r367, r368⟩ := R.t2_ r356
                          cases e363
                          obtain rfl := R.int_ r367
                          obtain rfl := R.int_ r368
                          obtain ⟨y357, e358, hk⟩ := wp_opt hk
                          obtain ⟨w359, e360, r361⟩ := RD.some hl81 (k := (y334.1, y334.2)) e358
                          obtain rfl := R.int_ r361
                          refine ⟨_, rfl, _, rfl, _, _, rfl, (dget_T (O354.at 2 rfl) (O354.s _ _ h364) e360), _, (O354.at 0 rfl), (comp_len la349 hi345 hl333.len c339), ?_⟩
                          exact ⟨F350, (), acc347 ++ [y357], wa348 ++ [V.int y357], S352, O354.set 0 (.lst (wa348 ++ [V.int y357])) rfl, RL.snoc hl353 R.int, by rw [List.length_append]; exact Nat.succ_le_succ la349, hk⟩
                        rintro H370 ⟨F371, st372, acc373, wa374, S375, O376, hl377, la378, hL379⟩
                        rw [drop_end hl333.len] at hL379
                        have hk := hLd338 _ _ hL379
                        have f_tree := f_tree.mono S375
                        have r7 := r7.mono S375
                        have h17 := S375 _ _ h17
                        have r20 := r20.mono S375
                        have r21 := r21.mono S375
                        have h25 := S375 _ _ h25
                        have hl26 := hl26.mono S375
                        have hl81 := hl81.mono S375
                        have S98 := S98.trans S375
                        have hl119 := hl119.mono S375
                        have h121 := S375 _ _ h121
                        have h151 := h151.mono S375
                        have h174 := h174.mono S375
                        have h182 := h182.mono S375
                        have h187 := S375 _ _ h187
                        have hl188 := hl188.mono S375
                        have h192 := S375 _ _ h192
                        have hl193 := hl193.mono S375
                        have h263 := h263.mono S375
                        have h267 := S375 _ _ h267
                        have hl268 := hl268.mono S375
                        have h319 := h319.mono S375
                        have h326 := h326.mono S375
                        have h332 := S375 _ _ h332
                        have hl333 := hl333.mono S375
                        obtain ⟨F381, O382, S383, h384⟩ := O376.frzE 0 rfl z369
                        have f_tree := f_tree.mono S383
                        have r7 := r7.mono S383
                        have h17 := S383 _ _ h17
                        have r20 := r20.mono S383
                        have r21 := r21.mono S383
                        have h25 := S383 _ _ h25
                        have hl26 := hl26.mono S383
                        have hl81 := hl81.mono S383
                        have S98 := S98.trans S383
                        have hl119 := hl119.mono S383
                        have h121 := S383 _ _ h121
                        have h151 := h151.mono S383
                        have h174 := h174.mono S383
                        have h182 := h182.mono S383
                        have h187 := S383 _ _ h187
                        have hl188 := hl188.mono S383
                        have h192 := S383 _ _ h192
                        have hl193 := hl193.mono S383
                        have h263 := h263.mono S383
                        have h267 := S383 _ _ h267
                        have hl268 := hl268.mono S383
                        have h319 := h319.mono S383
                        have h326 := h326.mono S383
                        have h332 := S383 _ _ h332
                        have hl333 := hl333.mono S383
                        have hl377 := hl377.mono S383
                        have h385 := R.lst (a := Int) h384 hl377
                        obtain ⟨p386, w387, e388, h389, hl390⟩ := R.lst_ h385
                        cases e388
                        refine ⟨_, acc373, rfl, (by rw [← RL.ints hl390]; exact (SqLF O382.s h389)), _, rfl, _, _, R.int, R.int, _, rfl, ?_⟩
                        refine iteD (fun q391 => ?_) (fun q391 => ?_)
                        · have hk := wp_if hk q391
                          exact hk _ _  O382.g 
                        · have hk := wp_el hk q391
                          obtain ⟨c392, hk⟩ := wp_appL hk
                          refine ⟨_, rfl, (.inl ⟨rfl, _, SqL.of (O382.at 0 rfl)⟩), _, _, _, rfl, rfl, (O382.at 0 rfl), (by rw [hl119.len]; exact c392), ?_⟩
                          have O394 := O382.set 0 (.lst (w115 ++ [V.int (0 : Int)])) rfl
                          have hl395 : RL (a := Int) F381 (w115 ++ [V.int (0 : Int)]) (r108.1 ++ [(0 : Int)]) := RL.snoc hl119 R.int
                          have O396 := O394.drop 0
                          exact ⟨F381, (), some (V.int y87), some (V.ref p113), some (V.ref p200), some (V.ref p114), some (V.int r108.2), rfl, S98, O396, hk⟩
            · have hk := wp_el hk q144
              refine iteT ?_
              exact hk _ _  O143.g 
          · have hk := wp_el hk q137
            refine iteT ?_
            exact hk _ _  O136.g 
    rintro sg397 H398 ⟨F407, st400, t402, t403, t404, t405, t406, rfl, S399, O408, hL401⟩
    rw [rangeL_end0] at hL401
    have hk := hLd92 _ hL401
    have f_tree := f_tree.mono S399
    have r7 := r7.mono S399
    have h17 := S399 _ _ h17
    have r20 := r20.mono S399
    have r21 := r21.mono S399
    have h25 := S399 _ _ h25
    have hl26 := hl26.mono S399
    have hl81 := hl81.mono S399
    exact hk _ _  O408.g 
abbrev s_law : Stmt := top 20
theorem sc_law : FnScope ["script", "cell", "deck", "tree", "many", "pairs", "one", "other", "k"] ["script"] (defScope s_law) := ⟨rfl, rfl, rfl, by decide +kernel, rfl, by decide +kernel, by decide +kernel⟩
def m_law (x_script : (List Int)) : M (Bool) :=
chk (([((10 : Int) ^ Int.toNat (18 : Int))]).length + (cutL x_script none (some (4 : Int))).length < 16777216) >>= fun _ =>
loopM (fun (y41 : Int) (st52 : Unit) =>
m_law_deck y41 >>= fun r65 =>
m_law_take r65 (4 : Int) >>= fun r87 =>
opt (atI ([(10 : Int), (10 : Int), (10 : Int), (40 : Int)]) r87.1) >>= fun y101 =>
m_law_far r87.2 >>= fun r106 =>
m_law_tree r106.2 y101 r106.1 >>= fun r115 =>
chk (okR (if (10 : Int) < (r115.1.1.length : Int) then (10 : Int) else (r115.1.1.length : Int))) >>= fun _ =>
loopN (fun (y146 : Int) (st158 : (List (Int × Int))) =>
chk (okR (if (10 : Int) < (r115.1.1.length : Int) then (10 : Int) else (r115.1.1.length : Int))) >>= fun _ =>
compS (fun (y164 : Int) (st182 : Unit) =>
.ok (some (y146, y164), ())) (rangeL 0 (if (10 : Int) < (r115.1.1.length : Int) then (10 : Int) else (r115.1.1.length : Int))) () >>= fun q204 =>
chk (st158.length + q204.1.length < 16777216) >>= fun _ =>
.ok (st158 ++ q204.1)) (rangeL 0 (if (10 : Int) < (r115.1.1.length : Int) then (10 : Int) else (r115.1.1.length : Int))) ([] : List (Int × Int)) >>= fun st232 =>
if (10 : Int) < (r115.1.1.length : Int) then (
chk (okR (10 : Int)) >>= fun _ =>
compS (fun (y240 : Int) (st258 : (List Int)) =>
m_law_take st258 (r115.1.1.length : Int) >>= fun r264 =>
m_law_take r264.2 (r115.1.1.length : Int) >>= fun r273 =>
.ok (some (r264.1, r273.1), r273.2)) (rangeL 0 (10 : Int)) r115.2 >>= fun q302 =>
loopM (fun (y313 : (Int × Int)) (st324 : Unit) =>
m_law_right r115.1 y313.1 y313.2 >>= fun r338 =>
if r338 = true then (
.ok (.nx ()))
else (
.ok (.rt (.rt false)))) q302.1 () >>= fun f354 => match f354 with
| .rt z_ => .ok z_
| .nx st348 =>
.ok (.nx ()))
else (
loopM (fun (y361 : (Int × Int)) (st372 : Unit) =>
m_law_right r115.1 y361.1 y361.2 >>= fun r386 =>
if r386 = true then (
.ok (.nx ()))
else (
.ok (.rt (.rt false)))) st232 () >>= fun f402 => match f402 with
| .rt z_ => .ok z_
| .nx st396 =>
.ok (.nx ()))) (([((10 : Int) ^ Int.toNat (18 : Int))]) ++ (cutL x_script none (some (4 : Int)))) () >>= fun f418 => match f418 with
| .rt z_ => .ok z_
| .nx st407 =>
.ok true
def sp_law (K : PySem.W.Frag) : Sp := fun vs H Q E => ∃ (F : Hp) (a_script : Addr) (x_script : (List Int)), vs = [.ref a_script] ∧ Pre F [] H ∧ SqL K F a_script (x_script.map V.int) ∧
  wp (m_law x_script) (fun r => ∀ (F' H' : Hp), Gr [] F H F' H' → Q (V.bl r) H') (fun _ => False)
set_option maxHeartbeats 2000000 in
theorem ok_law (nb : Nb mg) (C_law_deck : Ca P w K mg base "_law_deck" 2 ["cell"] (sp_law_deck mg)) (C_law_far : Ca P w K mg base "_law_far" 2 ["deck"] (sp_law_far mg)) (C_law_right : Ca P w K mg base "_law_right" 3 ["tree", "one", "other"] (sp_law_right mg)) (C_law_take : Ca P w K mg base "_law_take" 1 ["deck", "many"] (sp_law_take mg)) (C_law_tree : Ca P w K mg base "_law_tree" 3 ["deck", "most", "far"] (sp_law_tree mg)) {f : Addr} {fd : FuncData} (F_ : Fun K "law" "law" s_law f fd) : FnOk P w K mg base (L2.CX P w) 4 f fd ["script"] (sp_law K) := by
  obtain ⟨fa_law_deck, fd_law_deck, G_law_deck, M_law_deck, K_law_deck, B_law_deck⟩ := C_law_deck.ex
  obtain ⟨fa_law_far, fd_law_far, G_law_far, M_law_far, K_law_far, B_law_far⟩ := C_law_far.ex
  obtain ⟨fa_law_right, fd_law_right, G_law_right, M_law_right, K_law_right, B_law_right⟩ := C_law_right.ex
  obtain ⟨fa_law_take, fd_law_take, G_law_take, M_law_take, K_law_take, B_law_take⟩ := C_law_take.ex
  obtain ⟨fa_law_tree, fd_law_tree, G_law_tree, M_law_tree, K_law_tree, B_law_tree⟩ := C_law_tree.ex
  refine F_.okX sc_law (fun vs H Q E h => ?_) (fun cdv A outer s H vs Q E hr h => ?_)
  · obtain ⟨F, _, _, rfl, _⟩ := h
    rfl
  · obtain ⟨F, a_script, x_script, rfl, P0, f_script, hk⟩ := h
    have nd := sc_law.nd
    have hu64 := hr.units
    have hu128 := hu128_of hr
    have O := P0.start
    refine ⟨_, (pss_cons (ps_for (passes_of rfl) rfl (pi_list (pe_op op_cat (pe_lst (pa_cons (pe_op op_pow pe_int pe_int) pa_nil)) (pe_slice (slListK (K := K) rfl) (pv 0) po_none (po_some pe_int)))) (pg_name (i := 1) nd rfl (Or.inl rfl)) (pss_cons (ps_set (i := 2) nd rfl (Or.inr rfl) (pe_call G_law_deck (hr.mono (by decide)) rfl M_law_deck K_law_deck B_law_deck .nil (passes_call (takes_of rfl rfl rfl rfl) fun _ _ _ _ h => h) (pa_cons (pv 1) pa_nil)))
  (pss_cons (ps_set (i := 3) nd rfl (Or.inl rfl) (pe_call G_law_tree (hr.mono (by decide)) rfl M_law_tree K_law_tree B_law_tree .nil (passes_call (takes_of rfl rfl rfl rfl) fun _ _ _ _ h => h) (pa_cons (pv 2) (pa_cons (pe_ix (ixListK (K := K) rfl) (pe_lst (pa_cons pe_int (pa_cons pe_int (pa_cons pe_int (pa_cons pe_int pa_nil))))) (pe_call G_law_take (hr.mono (by decide)) rfl M_law_take K_law_take B_law_take .nil (passes_call (takes_of rfl rfl rfl rfl) fun _ _ _ _ h => h) (pa_cons (pv 2) (pa_cons pe_int pa_nil))) (fun _ _ => rfl)) (pa_cons (pe_call G_law_far (hr.mono (by decide)) rfl M_law_far K_law_far B_law_far .nil (passes_call (takes_of rfl rfl rfl rfl) fun _ _ _ _ h => h) (pa_cons (pv 2) pa_nil)) pa_nil)))))
  (pss_cons (ps_set (i := 4) nd rfl (Or.inr rfl) (pe_callB call_lenT (by rfl) nb.b_len PySem.boot_len (pa_cons (pe_ix (ixTupK (K := K) rfl) (pv 3) pe_int (fun _ _ => rfl)) pa_nil)))
  (pss_cons (ps_set (i := 5) nd rfl (Or.inl rfl) (pe_lst pa_nil))
  (pss_cons (ps_for (passes_of rfl) rfl (pi_range1 rfl nb.b_range (pa_cons (pe_callB (call_min2 rfl) (by rfl) nb.b_min (by decide +kernel) (pa_cons (pv 4) (pa_cons pe_int pa_nil))) pa_nil)) (pg_name (i := 6) nd rfl (Or.inr rfl)) (pss_one (ps_set (i := 5) nd rfl (Or.inl rfl) (pe_op op_cat (pv 5) (pe_lc (own := [("other", 7)]) (g := gName 7) (tt := _) rfl nd (pi_range1 rfl nb.b_range (pa_cons (pe_callB (call_min2 rfl) (by rfl) nb.b_min (by decide +kernel) (pa_cons (pv 4) (pa_cons pe_int pa_nil))) pa_nil)) (blkOk_by (own := [("other", 7)]) (N := ["script", "cell", "deck", "tree", "many", "pairs", "one", "other", "k"]) (sc := defScope s_law) (by decide +kernel)) (fun _ _ _ _ _ => (pg_name (i := 7) nd rfl (Or.inl rfl))) (fun _ _ _ _ _ => pts_nil) (fun _ _ _ _ _ => (pe_tup (pa_cons (pv 6) (pa_cons (pv 7) pa_nil)))))))))
  (pss_cons (ps_if (pt_cmpR op_gt (pv 4) pe_int (nomark _)) (pss_one (ps_setLc (i := 5) (own := [("k", 8)]) (g := gName 8) (tt := _) rfl nd rfl rfl (sw_true rfl rfl rfl (by decide +kernel)) (pi_range1 rfl nb.b_range (pa_cons pe_int pa_nil)) (blkOk_by (own := [("k", 8)]) (N := ["script", "cell", "deck", "tree", "many", "pairs", "one", "other", "k"]) (sc := defScope s_law) (by decide +kernel)) (fun _ _ _ _ _ => (pg_name (i := 8) nd rfl (Or.inl rfl))) (fun _ _ _ _ _ => pts_nil) (fun _ _ _ _ _ => (pe_tup (pa_cons (pe_call G_law_take (hr.mono (by decide)) rfl M_law_take K_law_take B_law_take .nil passL (pa_cons (pv 2) (pa_cons (pv 4) pa_nil))) (pa_cons (pe_call G_law_take (hr.mono (by decide)) rfl M_law_take K_law_take B_law_take .nil passL (pa_cons (pv 2) (pa_cons (pv 4) pa_nil))) pa_nil)))))) pss_nil)
  (pss_one (ps_for (passes_of rfl) rfl (pi_list (pv 5)) (pg_tup rfl (pgs_cons (pg_name (i := 6) nd rfl (Or.inr rfl)) (pgs_cons (pg_name (i := 7) nd rfl (Or.inl rfl)) pgs_nil))) (pss_one (ps_if (pt_not (pt_val (pe_call G_law_right (hr.mono (by decide)) rfl M_law_right K_law_right B_law_right .nil (passes_call (takes_of rfl rfl rfl rfl) fun _ _ _ _ h => h) (pa_cons (pv 3) (pa_cons (pv 6) (pa_cons (pv 7) pa_nil)))))) (pss_one (ps_ret pe_bl)) pss_nil)))))))))))
  (pss_one (ps_ret pe_bl))), ?_⟩
    refine ⟨_, _, rfl, rfl, (by decide), (by show 1 ≤ sizeLine; decide), fun p1 hp2 => ?_⟩
    have hl8 : RL (a := Int) F ([V.int ((10 : Int) ^ Int.toNat (18 : Int))]) ([((10 : Int) ^ Int.toNat (18 : Int))]) := RL.cons R.int RL.nil
    obtain ⟨F3, O4, S5, h6⟩ := O.putE hp2 (.lst ([V.int ((10 : Int) ^ Int.toNat (18 : Int))]))
    have f_script := S5.seq f_script
    have hl8 := hl8.mono S5
    have h7 := R.lst (a := Int) h6 hl8
    refine ⟨_, rfl, _, rfl, _, _, rfl, (O4.s.seq f_script), fun p9 hp10 => ?_⟩
    have hl16 : RL (a := Int) F3 (cutV (List.map V.int x_script) none (some (4 : Int))) (cutL x_script none (some (4 : Int))) := RL.cutL RL.of_ints none (some (4 : Int))
    obtain ⟨F11, O12, S13, h14⟩ := O4.putE hp10 (.lst (cutV (List.map V.int x_script) none (some (4 : Int))))
    have f_script := S13.seq f_script
    have h7 := h7.mono S13
    have hl16 := hl16.mono S13
    have h15 := R.lst (a := Int) h14 hl16
    obtain ⟨p17, w18, e19, h20, hl21⟩ := R.lst_ h7
    cases e19
    obtain ⟨p22, w23, e24, h25, hl26⟩ := R.lst_ h15
    cases e24
    obtain ⟨c27, hk⟩ := wp_chk hk
    refine ⟨_, _, _, _, rfl, rfl, (O12.s _ _ h20), (O12.s _ _ h25), (by rw [hl21.len, hl26.len]; exact le_line c27), fun p28 hp29 => ?_⟩
    have hl35 : RL (a := Int) F11 (w18 ++ w23) (([((10 : Int) ^ Int.toNat (18 : Int))]) ++ (cutL x_script none (some (4 : Int)))) := RL.app hl21 hl26
    obtain ⟨F30, O31, S32, h33⟩ := O12.putE hp29 (.lst (w18 ++ w23))
    have f_script := S32.seq f_script
    have h7 := h7.mono S32
    have h15 := h15.mono S32
    have h20 := S32 _ _ h20
    have hl21 := hl21.mono S32
    have h25 := S32 _ _ h25
    have hl26 := hl26.mono S32
    have hl35 := hl35.mono S32
    have h34 := R.lst (a := Int) h33 hl35
    obtain ⟨p36, w37, e38, h39, hl40⟩ := R.lst_ h34
    cases e38
    obtain ⟨L42, hL43, hLs44, hLd45⟩ := loopM_L hk
    refine ⟨_, rfl, ⟨_, (SqLF O31.s h39)⟩, ?_⟩
    refine for_list (K := K) (xs := w37) (fun i σ H => ∃ (F_ : Hp) (st : Unit) (t_0 : Option V) (t_1 : Option V) (t_2 : Option V) (t_3 : Option V) (t_4 : Option V) (t_5 : Option V) (t_6 : Option V), σ = [some (V.ref a_script), t_0, t_1, t_2, t_3, t_4, t_5, t_6, none] ∧ Same F30 F_ ∧ Ow _ F_ [] H ∧ L42 (List.drop i (([((10 : Int) ^ Int.toNat (18 : Int))]) ++ (cutL x_script none (some (4 : Int))))) st) ⟨F30, (), none, none, none, none, none, none, none, rfl, Same.refl _, O31, hL43⟩ (fun i_ σ_ H_ _ hp_ => ?_) ?_ ?_
    · obtain ⟨_, _, _, _, _, _, _, _, _, _, hS_, hO_, _⟩ := hp_
      exact SqLF hO_.s (hS_ _ _ h39)
    · rintro i46 x47 sg48 H49 hi50 ⟨F60, st52, t53, t54, t55, t56, t57, t58, t59, rfl, S51, O61, hL43⟩
      have f_script := S51.seq f_script
      have h7 := h7.mono S51
      have h15 := h15.mono S51
      have h20 := S51 _ _ h20
      have hl21 := hl21.mono S51
      have h25 := S51 _ _ h25
      have hl26 := hl26.mono S51
      have h34 := h34.mono S51
      have h39 := S51 _ _ h39
      have hl40 := hl40.mono S51
      obtain ⟨y41, e62, r63⟩ := RL.got hl40 hi50
      rw [drop_at e62] at hL43
      have hk := hLs44 _ _ _ hL43
      obtain rfl := R.int_ r63
      refine ⟨_, rfl, _, _, rfl, O61.pre0, wp_call hk (fun r65 er66 hk F67 H68 g69 p70 w71 hn72 hf73 h74 hl75 => ?_) (fun n hn C H1 hC kp => hn.elim)⟩
      have O76 := O61.call0 g69
      have S_ := g69.f
      have f_script := S_.seq f_script
      have h7 := h7.mono S_
      have h15 := h15.mono S_
      have h20 := S_ _ _ h20
      have hl21 := hl21.mono S_
      have h25 := S_ _ _ h25
      have hl26 := hl26.mono S_
      have h34 := h34.mono S_
      have h39 := S_ _ _ h39
      have hl40 := hl40.mono S_
      have S51 := S51.trans S_
      have O77 := O61.got O76 rfl hn72 hf73 h74
      have z78 := O61.was hn72
      refine ⟨_, rfl, (by show 4 ≤ sizeLine; decide), fun p79 hp80 => ?_⟩
      have hl86 : RL (a := Int) F67 ([V.int (10 : Int), V.int (10 : Int), V.int (10 : Int), V.int (40 : Int)]) ([(10 : Int), (10 : Int), (10 : Int), (40 : Int)]) := RL.cons R.int (RL.cons R.int (RL.cons R.int (RL.cons R.int RL.nil)))
      obtain ⟨F81, O82, S83, h84⟩ := O77.putE hp80 (.lst ([V.int (10 : Int), V.int (10 : Int), V.int (10 : Int), V.int (40 : Int)]))
      have f_script := S83.seq f_script
      have h7 := h7.mono S83
      have h15 := h15.mono S83
      have h20 := S83 _ _ h20
      have hl21 := hl21.mono S83
      have h25 := S83 _ _ h25
      have hl26 := hl26.mono S83
      have h34 := h34.mono S83
      have h39 := S83 _ _ h39
      have hl40 := hl40.mono S83
      have S51 := S51.trans S83
      have hl75 := hl75.mono S83
      have hl86 := hl86.mono S83
      have h85 := R.lst (a := Int) h84 hl86
      refine ⟨_, rfl, _, _, _, _, _, rfl, (O82.pre1 0 rfl), hl75, wp_call hk (fun r87 er88 hk F89 H90 w92 g91 h93 hl94 => ?_) (fun n hn C H1 hC kp => hn.elim)⟩
      have O95 := O82.call1 g91 0 rfl h93
      have S_ := g91.f
      have f_script := S_.seq f_script
      have h7 := h7.mono S_
      have h15 := h15.mono S_
      have h20 := S_ _ _ h20
      have hl21 := hl21.mono S_
      have h25 := S_ _ _ h25
      have hl26 := hl26.mono S_
      have h34 := h34.mono S_
      have h39 := S_ _ _ h39
      have hl40 := hl40.mono S_
      have S51 := S51.trans S_
      have h85 := h85.mono S_
      obtain ⟨p96, w97, e98, h99, hl100⟩ := R.lst_ h85
      cases e98
      obtain ⟨y101, e102, hk⟩ := wp_opt hk
      obtain ⟨w103, e104, r105⟩ := hl100.atI e102
      obtain rfl := R.int_ r105
      refine ⟨_, _, _, _, rfl, rfl, (SqLF O95.s h99), e104, _, rfl, _, _, _, _, rfl, (O95.pre1 0 rfl), hl94, wp_call hk (fun r106 er107 hk F108 H109 w111 g110 h112 hl113 => ?_) (fun n hn C H1 hC kp => hn.elim)⟩
      have O114 := O95.call1 g110 0 rfl h112
      have S_ := g110.f
      have f_script := S_.seq f_script
      have h7 := h7.mono S_
      have h15 := h15.mono S_
      have h20 := S_ _ _ h20
      have hl21 := hl21.mono S_
      have h25 := S_ _ _ h25
      have hl26 := hl26.mono S_
      have h34 := h34.mono S_
      have h39 := S_ _ _ h39
      have hl40 := hl40.mono S_
      have S51 := S51.trans S_
      have h85 := h85.mono S_
      have h99 := S_ _ _ h99
      have hl100 := hl100.mono S_
      refine ⟨_, _, _, _, _, _, rfl, (O114.pre1 0 rfl), hl113, wp_call hk (fun r115 er116 hk F117 H118 w120 g119 h121 hl122 v123 r124 => ?_) (fun n hn C H1 hC kp => hn.elim)⟩
      have O125 := O114.call1 g119 0 rfl h121
      have S_ := g119.f
      have f_script := S_.seq f_script
      have h7 := h7.mono S_
      have h15 := h15.mono S_
      have h20 := S_ _ _ h20
      have hl21 := hl21.mono S_
      have h25 := S_ _ _ h25
      have hl26 := hl26.mono S_
      have h34 := h34.mono S_
      have h39 := S_ _ _ h39
      have hl40 := hl40.mono S_
      have S51 := S51.trans S_
      have h85 := h85.mono S_
      have h99 := S_ _ _ h99
      have hl100 := hl100.mono S_
      obtain ⟨p126, v129, v130, e127, h128, r131, r132⟩ := R.t2_ r124
      cases e127
      obtain ⟨p133, w134, e135, h136, hl137⟩ := R.lst_ r131
      cases e135
      refine ⟨_, rfl, _, _, _, _, rfl, rfl, (SqTF O125.s h128), rfl, _, _, _, rfl, (.inl (O125.s _ _ h136)), hl137.len, (by show 0 ≤ sizeLine; decide), fun p138 hp139 => ?_⟩
      have hl145 : RL (a := (Int × Int)) F117 ([]) ([] : List (Int × Int)) := RL.nil
      obtain ⟨F140, O141, S142, h143⟩ := O125.putE hp139 (.lst ([]))
      have f_script := S142.seq f_script
      have h7 := h7.mono S142
      have h15 := h15.mono S142
      have h20 := S142 _ _ h20
      have hl21 := hl21.mono S142
      have h25 := S142 _ _ h25
      have hl26 := hl26.mono S142
      have h34 := h34.mono S142
      have h39 := S142 _ _ h39
      have hl40 := hl40.mono S142
      have S51 := S51.trans S142
      have h85 := h85.mono S142
      have h99 := S142 _ _ h99
      have hl100 := hl100.mono S142
      have hl122 := hl122.mono S142
      have r124 := r124.mono S142
      have h128 := S142 _ _ h128
      have r131 := r131.mono S142
      have r132 := r132.mono S142
      have h136 := S142 _ _ h136
      have hl137 := hl137.mono S142
      have hl145 := hl145.mono S142
      have h144 := R.lst (a := (Int × Int)) h143 hl145
      obtain ⟨c147, hk⟩ := wp_chk hk
      obtain ⟨L148, hL149, hLs150, hLd151⟩ := loopN_L hk
      refine ⟨_, rfl, _, _, rfl, _, rfl, c147.lo, c147.hi, ?_⟩
      refine for_range (lo := 0) (n := ((if (10 : Int) < (r115.1.1.length : Int) then (10 : Int) else (r115.1.1.length : Int))).toNat) (fun i σ H => ∃ (F_ : Hp) (st : (List (Int × Int))) (v_0 : V) (t_0 : Option V), σ = [some (V.ref a_script), some (V.int y41), some (V.ref p70), some (V.ref p126), some (V.int (r115.1.1.length : Int)), some v_0, t_0, t59, none] ∧ Same F140 F_ ∧ Ow _ F_ [(p70, .lst w120)] H ∧ R (a := (List (Int × Int))) F_ v_0 st ∧ L148 (List.drop i (rangeL 0 (if (10 : Int) < (r115.1.1.length : Int) then (10 : Int) else (r115.1.1.length : Int)))) st) ⟨F140, ([] : List (Int × Int)), V.ref p138, t58, rfl, Same.refl _, O141, h144, hL149⟩ ?_ ?_
      · rintro i152 sg154 H155 hi156 ⟨F162, st158, v159, t161, rfl, S157, O163, r160, hL149⟩
        have f_script := S157.seq f_script
        have h7 := h7.mono S157
        have h15 := h15.mono S157
        have h20 := S157 _ _ h20
        have hl21 := hl21.mono S157
        have h25 := S157 _ _ h25
        have hl26 := hl26.mono S157
        have h34 := h34.mono S157
        have h39 := S157 _ _ h39
        have hl40 := hl40.mono S157
        have S51 := S51.trans S157
        have h85 := h85.mono S157
        have h99 := S157 _ _ h99
        have hl100 := hl100.mono S157
        have hl122 := hl122.mono S157
        have r124 := r124.mono S157
        have h128 := S157 _ _ h128
        have r131 := r131.mono S157
        have r132 := r132.mono S157
        have h136 := S157 _ _ h136
        have hl137 := hl137.mono S157
        have h144 := h144.mono S157
        rw [rangeL_get0 hi156] at hL149
        have hk := hLs150 _ _ _ hL149
        obtain ⟨y146, he_⟩ : ∃ z_, z_ = 0 + (i152 : Int) := ⟨_, rfl⟩
        try rw [← he_] at hk
        rw [← he_]
        obtain ⟨c165, hk⟩ := wp_chk hk
        obtain ⟨c170, L166, hL167, hLs168, hLd169⟩ := compS_L hk
        refine ⟨_, rfl, _, rfl, _, _, rfl, _, rfl, c165.lo, c165.hi, fun p171 hp172 => ?_⟩
        have z193 := O163.was hp172
        refine lc_range (lo := 0) (n := ((if (10 : Int) < (r115.1.1.length : Int) then (10 : Int) else (r115.1.1.length : Int))).toNat) (fun i H => ∃ (F_ : Hp) (st : Unit) (acc : List (Int × Int)) (wa : List V), Same F162 F_ ∧ Ow _ F_ [(p171, .lst wa), (p70, .lst w120)] H ∧ RL F_ wa acc ∧ wa.length ≤ i ∧ L166 (List.drop i (rangeL 0 (if (10 : Int) < (r115.1.1.length : Int) then (10 : Int) else (r115.1.1.length : Int)))) acc st) ⟨F162, (), [], [], Same.refl _, O163.new hp172, RL.nil, Nat.zero_le _, hL167⟩ ?_ ?_
        · rintro i173 H175 hi176 ⟨F181, st182, acc178, wa179, S183, O185, hl184, la180, hL167⟩
          have f_script := S183.seq f_script
          have h7 := h7.mono S183
          have h15 := h15.mono S183
          have h20 := S183 _ _ h20
          have hl21 := hl21.mono S183
          have h25 := S183 _ _ h25
          have hl26 := hl26.mono S183
          have h34 := h34.mono S183
          have h39 := S183 _ _ h39
          have hl40 := hl40.mono S183
          have S51 := S51.trans S183
          have h85 := h85.mono S183
          have h99 := S183 _ _ h99
          have hl100 := hl100.mono S183
          have hl122 := hl122.mono S183
          have r124 := r124.mono S183
          have h128 := S183 _ _ h128
          have r131 := r131.mono S183
          have r132 := r132.mono S183
          have h136 := S183 _ _ h136
          have hl137 := hl137.mono S183
          have h144 := h144.mono S183
          have r160 := r160.mono S183
          have S157 := S157.trans S183
          rw [rangeL_get0 hi176] at hL167
          have hk := hLs168 _ _ _ _ hL167
          obtain ⟨y164, he_⟩ : ∃ z_, z_ = 0 + (i173 : Int) := ⟨_, rfl⟩
          try rw [← he_] at hk
          rw [← he_]
          refine ⟨rfl, ?_⟩
          refine ⟨_, rfl, _, rfl, (by show 2 ≤ sizeLine; decide), fun p186 hp187 => ?_⟩
          obtain ⟨F188, O189, S190, h191⟩ := O185.putE hp187 (.tup [V.int y146, V.int y164])
          have f_script := S190.seq f_script
          have h7 := h7.mono S190
          have h15 := h15.mono S190
          have h20 := S190 _ _ h20
          have hl21 := hl21.mono S190
          have h25 := S190 _ _ h25
          have hl26 := hl26.mono S190
          have h34 := h34.mono S190
          have h39 := S190 _ _ h39
          have hl40 := hl40.mono S190
          have S51 := S51.trans S190
          have h85 := h85.mono S190
          have h99 := S190 _ _ h99
          have hl100 := hl100.mono S190
          have hl122 := hl122.mono S190
          have r124 := r124.mono S190
          have h128 := S190 _ _ h128
          have r131 := r131.mono S190
          have r132 := r132.mono S190
          have h136 := S190 _ _ h136
          have hl137 := hl137.mono S190
          have h144 := h144.mono S190
          have r160 := r160.mono S190
          have S157 := S157.trans S190
          have S183 := S183.trans S190
          have hl184 := hl184.mono S190
          have h192 : R (a := (Int × Int)) F188 (.ref p186) (y146, y164) := R.t2 h191 R.int R.int
          refine ⟨_, (O189.at 0 rfl), (comp_lenR la180 hi176 (by rw [Int.sub_zero]) c170), ?_⟩
          exact ⟨F188, (), acc178 ++ [(y146, y164)], wa179 ++ [V.ref p186], S183, O189.set 0 (.lst (wa179 ++ [V.ref p186])) rfl, RL.snoc hl184 h192, by rw [List.length_append]; exact Nat.succ_le_succ la180, hk⟩
        rintro H194 ⟨F195, st196, acc197, wa198, S199, O200, hl201, la202, hL203⟩
        rw [rangeL_end0] at hL203
        have hk := hLd169 _ _ hL203
        have f_script := S199.seq f_script
        have h7 := h7.mono S199
        have h15 := h15.mono S199
        have h20 := S199 _ _ h20
        have hl21 := hl21.mono S199
        have h25 := S199 _ _ h25
        have hl26 := hl26.mono S199
        have h34 := h34.mono S199
        have h39 := S199 _ _ h39
        have hl40 := hl40.mono S199
        have S51 := S51.trans S199
        have h85 := h85.mono S199
        have h99 := S199 _ _ h99
        have hl100 := hl100.mono S199
        have hl122 := hl122.mono S199
        have r124 := r124.mono S199
        have h128 := S199 _ _ h128
        have r131 := r131.mono S199
        have r132 := r132.mono S199
        have h136 := S199 _ _ h136
        have hl137 := hl137.mono S199
        have h144 := h144.mono S199
        have r160 := r160.mono S199
        have S157 := S157.trans S199
        obtain ⟨F205, O206, S207, h208⟩ := O200.frzE 0 rfl z193
        have f_script := S207.seq f_script
        have h7 := h7.mono S207
        have h15 := h15.mono S207
        have h20 := S207 _ _ h20
        have hl21 := hl21.mono S207
        have h25 := S207 _ _ h25
        have hl26 := hl26.mono S207
        have h34 := h34.mono S207
        have h39 := S207 _ _ h39
        have hl40 := hl40.mono S207
        have S51 := S51.trans S207
        have h85 := h85.mono S207
        have h99 := S207 _ _ h99
        have hl100 := hl100.mono S207
        have hl122 := hl122.mono S207
        have r124 := r124.mono S207
        have h128 := S207 _ _ h128
        have r131 := r131.mono S207
        have r132 := r132.mono S207
        have h136 := S207 _ _ h136
        have hl137 := hl137.mono S207
        have h144 := h144.mono S207
        have r160 := r160.mono S207
        have S157 := S157.trans S207
        have hl201 := hl201.mono S207
        have h209 := R.lst (a := (Int × Int)) h208 hl201
        obtain ⟨p210, w211, e212, h213, hl214⟩ := R.lst_ r160
        cases e212
        obtain ⟨p215, w216, e217, h218, hl219⟩ := R.lst_ h209
        cases e217
        obtain ⟨c220, hk⟩ := wp_chk hk
        refine ⟨_, _, _, _, rfl, rfl, (O206.s _ _ h213), (O206.s _ _ h218), (by rw [hl214.len, hl219.len]; exact le_line c220), fun p221 hp222 => ?_⟩
        have hl228 : RL (a := (Int × Int)) F205 (w211 ++ w216) (st158 ++ acc197) := RL.app hl214 hl219
        obtain ⟨F223, O224, S225, h226⟩ := O206.putE hp222 (.lst (w211 ++ w216))
        have f_script := S225.seq f_script
        have h7 := h7.mono S225
        have h15 := h15.mono S225
        have h20 := S225 _ _ h20
        have hl21 := hl21.mono S225
        have h25 := S225 _ _ h25
        have hl26 := hl26.mono S225
        have h34 := h34.mono S225
        have h39 := S225 _ _ h39
        have hl40 := hl40.mono S225
        have S51 := S51.trans S225
        have h85 := h85.mono S225
        have h99 := S225 _ _ h99
        have hl100 := hl100.mono S225
        have hl122 := hl122.mono S225
        have r124 := r124.mono S225
        have h128 := S225 _ _ h128
        have r131 := r131.mono S225
        have r132 := r132.mono S225
        have h136 := S225 _ _ h136
        have hl137 := hl137.mono S225
        have h144 := h144.mono S225
        have r160 := r160.mono S225
        have S157 := S157.trans S225
        have h209 := h209.mono S225
        have h213 := S225 _ _ h213
        have hl214 := hl214.mono S225
        have h218 := S225 _ _ h218
        have hl219 := hl219.mono S225
        have hl228 := hl228.mono S225
        have h227 := R.lst (a := (Int × Int)) h226 hl228
        exact ⟨F223, (st158 ++ acc197), V.ref p221, some (V.int y146), rfl, S157, O224, h227, hk⟩
      rintro sg229 H230 ⟨F237, st232, v234, t236, rfl, S231, O238, r235, hL233⟩
      rw [rangeL_end0] at hL233
      have hk := hLd151 _ hL233
      have f_script := S231.seq f_script
      have h7 := h7.mono S231
      have h15 := h15.mono S231
      have h20 := S231 _ _ h20
      have hl21 := hl21.mono S231
      have h25 := S231 _ _ h25
      have hl26 := hl26.mono S231
      have h34 := h34.mono S231
      have h39 := S231 _ _ h39
      have hl40 := hl40.mono S231
      have S51 := S51.trans S231
      have h85 := h85.mono S231
      have h99 := S231 _ _ h99
      have hl100 := hl100.mono S231
      have hl122 := hl122.mono S231
      have r124 := r124.mono S231
      have h128 := S231 _ _ h128
      have r131 := r131.mono S231
      have r132 := r132.mono S231
      have h136 := S231 _ _ h136
      have hl137 := hl137.mono S231
      have h144 := h144.mono S231
      refine ⟨_, rfl, _, _, rfl, rfl, _, rfl, ?_⟩
      refine iteD (fun q239 => ?_) (fun q239 => ?_)
      · have hk := wp_if hk q239
        obtain ⟨c241, hk⟩ := wp_chk hk
        obtain ⟨c246, L242, hL243, hLs244, hLd245⟩ := compS_L hk
        refine ⟨_, rfl, c241.lo, c241.hi, fun p247 hp248 => ?_⟩
        have z289 := O238.was hp248
        refine lc_range (lo := 0) (n := ((10 : Int)).toNat) (fun i H => ∃ (F_ : Hp) (st : (List Int)) (acc : List (Int × Int)) (wa : List V) (w_0 : (List V)), Same F237 F_ ∧ Ow _ F_ [(p247, .lst wa), (p70, .lst w_0)] H ∧ RL F_ wa acc ∧ RL (a := Int) F_ w_0 st ∧ wa.length ≤ i ∧ L242 (List.drop i (rangeL 0 (10 : Int))) acc st) ⟨F237, r115.2, [], [], w120, Same.refl _, O238.new hp248, RL.nil, hl122, Nat.zero_le _, hL243⟩ ?_ ?_
        · rintro i249 H251 hi252 ⟨F257, st258, acc254, wa255, w260, S259, O263, hl262, hl261, la256, hL243⟩
          have f_script := S259.seq f_script
          have h7 := h7.mono S259
          have h15 := h15.mono S259
          have h20 := S259 _ _ h20
          have hl21 := hl21.mono S259
          have h25 := S259 _ _ h25
          have hl26 := hl26.mono S259
          have h34 := h34.mono S259
          have h39 := S259 _ _ h39
          have hl40 := hl40.mono S259
          have S51 := S51.trans S259
          have h85 := h85.mono S259
          have h99 := S259 _ _ h99
          have hl100 := hl100.mono S259
          have r124 := r124.mono S259
          have h128 := S259 _ _ h128
          have r131 := r131.mono S259
          have r132 := r132.mono S259
          have h136 := S259 _ _ h136
          have hl137 := hl137.mono S259
          have h144 := h144.mono S259
          have r235 := r235.mono S259
          rw [rangeL_get0 hi252] at hL243
          have hk := hLs244 _ _ _ _ hL243
          obtain ⟨y240, he_⟩ : ∃ z_, z_ = 0 + (i249 : Int) := ⟨_, rfl⟩
          try rw [← he_] at hk
          rw [← he_]
          refine ⟨rfl, ?_⟩
          refine ⟨_, rfl, _, rfl, _, _, _, _, _, rfl, (O263.pre1 1 rfl), hl261, wp_call hk (fun r264 er265 hk F266 H267 w269 g268 h270 hl271 => ?_) (fun n hn => hn.elim)⟩
          have O272 := O263.call1 g268 1 rfl h270
          have S_ := g268.f
          have f_script := S_.seq f_script
          have h7 := h7.mono S_
          have h15 := h15.mono S_
          have h20 := S_ _ _ h20
          have hl21 := hl21.mono S_
          have h25 := S_ _ _ h25
          have hl26 := hl26.mono S_
          have h34 := h34.mono S_
          have h39 := S_ _ _ h39
          have hl40 := hl40.mono S_
          have S51 := S51.trans S_
          have h85 := h85.mono S_
          have h99 := S_ _ _ h99
          have hl100 := hl100.mono S_
          have r124 := r124.mono S_
          have h128 := S_ _ _ h128
          have r131 := r131.mono S_
          have r132 := r132.mono S_
          have h136 := S_ _ _ h136
          have hl137 := hl137.mono S_
          have h144 := h144.mono S_
          have r235 := r235.mono S_
          have S259 := S259.trans S_
          have hl262 := hl262.mono S_
          refine ⟨_, rfl, _, rfl, _, _, _, _, _, rfl, (O272.pre1 1 rfl), hl271, wp_call hk (fun r273 er274 hk F275 H276 w278 g277 h279 hl280 => ?_) (fun n hn => hn.elim)⟩
          have O281 := O272.call1 g277 1 rfl h279
          have S_ := g277.f
          have f_script := S_.seq f_script
          have h7 := h7.mono S_
          have h15 := h15.mono S_
          have h20 := S_ _ _ h20
          have hl21 := hl21.mono S_
          have h25 := S_ _ _ h25
          have hl26 := hl26.mono S_
          have h34 := h34.mono S_
          have h39 := S_ _ _ h39
          have hl40 := hl40.mono S_
          have S51 := S51.trans S_
          have h85 := h85.mono S_
          have h99 := S_ _ _ h99
          have hl100 := hl100.mono S_
          have r124 := r124.mono S_
          have h128 := S_ _ _ h128
          have r131 := r131.mono S_
          have r132 := r132.mono S_
          have h136 := S_ _ _ h136
          have hl137 := hl137.mono S_
          have h144 := h144.mono S_
          have r235 := r235.mono S_
          have S259 := S259.trans S_
          have hl262 := hl262.mono S_
          refine ⟨(by show 2 ≤ sizeLine; decide), fun p282 hp283 => ?_⟩
          obtain ⟨F284, O285, S286, h287⟩ := O281.putE hp283 (.tup [V.int r264.1, V.int r273.1])
          have f_script := S286.seq f_script
          have h7 := h7.mono S286
          have h15 := h15.mono S286
          have h20 := S286 _ _ h20
          have hl21 := hl21.mono S286
          have h25 := S286 _ _ h25
          have hl26 := hl26.mono S286
          have h34 := h34.mono S286
          have h39 := S286 _ _ h39
          have hl40 := hl40.mono S286
          have S51 := S51.trans S286
          have h85 := h85.mono S286
          have h99 := S286 _ _ h99
          have hl100 := hl100.mono S286
          have r124 := r124.mono S286
          have h128 := S286 _ _ h128
          have r131 := r131.mono S286
          have r132 := r132.mono S286
          have h136 := S286 _ _ h136
          have hl137 := hl137.mono S286
          have h144 := h144.mono S286
          have r235 := r235.mono S286
          have S259 := S259.trans S286
          have hl262 := hl262.mono S286
          have hl280 := hl280.mono S286
          have h288 : R (a := (Int × Int)) F284 (.ref p282) (r264.1, r273.1) := R.t2 h287 R.int R.int
          refine ⟨_, (O285.at 0 rfl), (comp_lenR la256 hi252 (by rw [Int.sub_zero]) c246), ?_⟩
          exact ⟨F284, r273.2, acc254 ++ [(r264.1, r273.1)], wa255 ++ [V.ref p282], w278, S259, O285.set 0 (.lst (wa255 ++ [V.ref p282])) rfl, RL.snoc hl262 h288, hl280, by rw [List.length_append]; exact Nat.succ_le_succ la256, hk⟩
        rintro H290 ⟨F291, st292, acc293, wa294, w300, S295, O296, hl297, hl301, la298, hL299⟩
        rw [rangeL_end0] at hL299
        have hk := hLd245 _ _ hL299
        have f_script := S295.seq f_script
        have h7 := h7.mono S295
        have h15 := h15.mono S295
        have h20 := S295 _ _ h20
        have hl21 := hl21.mono S295
        have h25 := S295 _ _ h25
        have hl26 := hl26.mono S295
        have h34 := h34.mono S295
        have h39 := S295 _ _ h39
        have hl40 := hl40.mono S295
        have S51 := S51.trans S295
        have h85 := h85.mono S295
        have h99 := S295 _ _ h99
        have hl100 := hl100.mono S295
        have r124 := r124.mono S295
        have h128 := S295 _ _ h128
        have r131 := r131.mono S295
        have r132 := r132.mono S295
        have h136 := S295 _ _ h136
        have hl137 := hl137.mono S295
        have h144 := h144.mono S295
        have r235 := r235.mono S295
        obtain ⟨F303, O304, S305, h306⟩ := O296.frzE 0 rfl z289
        have f_script := S305.seq f_script
        have h7 := h7.mono S305
        have h15 := h15.mono S305
        have h20 := S305 _ _ h20
        have hl21 := hl21.mono S305
        have h25 := S305 _ _ h25
        have hl26 := hl26.mono S305
        have h34 := h34.mono S305
        have h39 := S305 _ _ h39
        have hl40 := hl40.mono S305
        have S51 := S51.trans S305
        have h85 := h85.mono S305
        have h99 := S305 _ _ h99
        have hl100 := hl100.mono S305
        have r124 := r124.mono S305
        have h128 := S305 _ _ h128
        have r131 := r131.mono S305
        have r132 := r132.mono S305
        have h136 := S305 _ _ h136
        have hl137 := hl137.mono S305
        have h144 := h144.mono S305
        have r235 := r235.mono S305
        have hl301 := hl301.mono S305
        have hl297 := hl297.mono S305
        have h307 := R.lst (a := (Int × Int)) h306 hl297
        obtain ⟨p308, w309, e310, h311, hl312⟩ := R.lst_ h307
        cases e310
        obtain ⟨L314, hL315, hLs316, hLd317⟩ := loopM_L hk
        refine ⟨_, rfl, _, rfl, ⟨_, (SqLF O304.s h311)⟩, ?_⟩
        refine for_list (K := K) (xs := w309) (fun i σ H => ∃ (F_ : Hp) (st : Unit) (t_0 : Option V) (t_1 : Option V), σ = [some (V.ref a_script), some (V.int y41), some (V.ref p70), some (V.ref p126), some (V.int (r115.1.1.length : Int)), some (V.ref p247), t_0, t_1, none] ∧ Same F303 F_ ∧ Ow _ F_ [(p70, .lst w300)] H ∧ L314 (List.drop i acc293) st) ⟨F303, (), t236, t59, rfl, Same.refl _, O304, hL315⟩ (fun i_ σ_ H_ _ hp_ => ?_) ?_ ?_
        · obtain ⟨_, _, _, _, _, hS_, hO_, _⟩ := hp_
          exact SqLF hO_.s (hS_ _ _ h311)
        · rintro i318 x319 sg320 H321 hi322 ⟨F327, st324, t325, t326, rfl, S323, O328, hL315⟩
          have f_script := S323.seq f_script
          have h7 := h7.mono S323
          have h15 := h15.mono S323
          have h20 := S323 _ _ h20
          have hl21 := hl21.mono S323
          have h25 := S323 _ _ h25
          have hl26 := hl26.mono S323
          have h34 := h34.mono S323
          have h39 := S323 _ _ h39
          have hl40 := hl40.mono S323
          have S51 := S51.trans S323
          have h85 := h85.mono S323
          have h99 := S323 _ _ h99
          have hl100 := hl100.mono S323
          have r124 := r124.mono S323
          have h128 := S323 _ _ h128
          have r131 := r131.mono S323
          have r132 := r132.mono S323
          have h136 := S323 _ _ h136
          have hl137 := hl137.mono S323
          have h144 := h144.mono S323
          have r235 := r235.mono S323
          have hl301 := hl301.mono S323
          have h307 := h307.mono S323
          have h311 := S323 _ _ h311
          have hl312 := hl312.mono S323
          obtain ⟨y313, e329, r330⟩ := RL.got hl312 hi322
          rw [drop_at e329] at hL315
          have hk := hLs316 _ _ _ hL315
          obtain ⟨p331, v334, v335, e332, h333, r336, r337⟩ := R.t2_ r330
          cases e332
          obtain rfl := R.int_ r336
          obtain rfl := R.int_ r337
          refine ⟨_, _, rfl, (SqTF O328.s h333), rfl, _, _, rfl, _, _, rfl, rfl, _, rfl, _, rfl, _, rfl, _, _, _, _, _, rfl, O328.pre0, r124, wp_call hk (fun r338 er339 hk F340 H341 g342 => ?_) (fun n hn C H1 hC kp => hn.elim)⟩
          have O343 := O328.call0 g342
          have S_ := g342.f
          have f_script := S_.seq f_script
          have h7 := h7.mono S_
          have h15 := h15.mono S_
          have h20 := S_ _ _ h20
          have hl21 := hl21.mono S_
          have h25 := S_ _ _ h25
          have hl26 := hl26.mono S_
          have h34 := h34.mono S_
          have h39 := S_ _ _ h39
          have hl40 := hl40.mono S_
          have S51 := S51.trans S_
          have h85 := h85.mono S_
          have h99 := S_ _ _ h99
          have hl100 := hl100.mono S_
          have r124 := r124.mono S_
          have h128 := S_ _ _ h128
          have r131 := r131.mono S_
          have r132 := r132.mono S_
          have h136 := S_ _ _ h136
          have hl137 := hl137.mono S_
          have h144 := h144.mono S_
          have r235 := r235.mono S_
          have hl301 := hl301.mono S_
          have h307 := h307.mono S_
          have h311 := S_ _ _ h311
          have hl312 := hl312.mono S_
          have S323 := S323.trans S_
          have r330 := r330.mono S_
          have h333 := S_ _ _ h333
          refine ⟨_, rfl, ?_⟩
          refine iteBN (fun q344 => ?_) (fun q344 => ?_)
          · have hk := wp_if hk q344
            exact ⟨F340, (), some (V.int y313.1), some (V.int y313.2), rfl, S323, O343, hk⟩
          · have hk := wp_el hk q344
            exact hk _ _  O343.g 
        rintro sg345 H346 ⟨F352, st348, t350, t351, rfl, S347, O353, hL349⟩
        rw [drop_end hl312.len] at hL349
        have hk := hLd317 _ hL349
        have f_script := S347.seq f_script
        have h7 := h7.mono S347
        have h15 := h15.mono S347
        have h20 := S347 _ _ h20
        have hl21 := hl21.mono S347
        have h25 := S347 _ _ h25
        have hl26 := hl26.mono S347
        have h34 := h34.mono S347
        have h39 := S347 _ _ h39
        have hl40 := hl40.mono S347
        have S51 := S51.trans S347
        have h85 := h85.mono S347
        have h99 := S347 _ _ h99
        have hl100 := hl100.mono S347
        have r124 := r124.mono S347
        have h128 := S347 _ _ h128
        have r131 := r131.mono S347
        have r132 := r132.mono S347
        have h136 := S347 _ _ h136
        have hl137 := hl137.mono S347
        have h144 := h144.mono S347
        have r235 := r235.mono S347
        have hl301 := hl301.mono S347
        have h307 := h307.mono S347
        have h311 := S347 _ _ h311
        have hl312 := hl312.mono S347
        have O355 := O353.drop 0
        exact ⟨F352, (), some (V.int y41), some (V.ref p70), some (V.ref p126), some (V.int (r115.1.1.length : Int)), some (V.ref p247), t350, t351, rfl, S51, O355, hk⟩
      · have hk := wp_el hk q239
        obtain ⟨p356, w357, e358, h359, hl360⟩ := R.lst_ r235
        cases e358
        obtain ⟨L362, hL363, hLs364, hLd365⟩ := loopM_L hk
        refine ⟨_, rfl, _, rfl, ⟨_, (SqLF O238.s h359)⟩, ?_⟩
        refine for_list (K := K) (xs := w357) (fun i σ H => ∃ (F_ : Hp) (st : Unit) (t_0 : Option V) (t_1 : Option V), σ = [some (V.ref a_script), some (V.int y41), some (V.ref p70), some (V.ref p126), some (V.int (r115.1.1.length : Int)), some (V.ref p356), t_0, t_1, none] ∧ Same F237 F_ ∧ Ow _ F_ [(p70, .lst w120)] H ∧ L362 (List.drop i st232) st) ⟨F237, (), t236, t59, rfl, Same.refl _, O238, hL363⟩ (fun i_ σ_ H_ _ hp_ => ?_) ?_ ?_
        · obtain ⟨_, _, _, _, _, hS_, hO_, _⟩ := hp_
          exact SqLF hO_.s (hS_ _ _ h359)
        · rintro i366 x367 sg368 H369 hi370 ⟨F375, st372, t373, t374, rfl, S371, O376, hL363⟩
          have f_script := S371.seq f_script
          have h7 := h7.mono S371
          have h15 := h15.mono S371
          have h20 := S371 _ _ h20
          have hl21 := hl21.mono S371
          have h25 := S371 _ _ h25
          have hl26 := hl26.mono S371
          have h34 := h34.mono S371
          have h39 := S371 _ _ h39
          have hl40 := hl40.mono S371
          have S51 := S51.trans S371
          have h85 := h85.mono S371
          have h99 := S371 _ _ h99
          have hl100 := hl100.mono S371
          have hl122 := hl122.mono S371
          have r124 := r124.mono S371
          have h128 := S371 _ _ h128
          have r131 := r131.mono S371
          have r132 := r132.mono S371
          have h136 := S371 _ _ h136
          have hl137 := hl137.mono S371
          have h144 := h144.mono S371
          have r235 := r235.mono S371
          have h359 := S371 _ _ h359
          have hl360 := hl360.mono S371
          obtain ⟨y361, e377, r378⟩ := RL.got hl360 hi370
          rw [drop_at e377] at hL363
          have hk := hLs364 _ _ _ hL363
          obtain ⟨p379, v382, v383, e380, h381, r384, r385⟩ := R.t2_ r378
          cases e380
          obtain rfl := R.int_ r384
          obtain rfl := R.int_ r385
          refine ⟨_, _, rfl, (SqTF O376.s h381), rfl, _, _, rfl, _, _, rfl, rfl, _, rfl, _, rfl, _, rfl, _, _, _, _, _, rfl, O376.pre0, r124, wp_call hk (fun r386 er387 hk F388 H389 g390 => ?_) (fun n hn C H1 hC kp => hn.elim)⟩
          have O391 := O376.call0 g390
          have S_ := g390.f
          have f_script := S_.seq f_script
          have h7 := h7.mono S_
          have h15 := h15.mono S_
          have h20 := S_ _ _ h20
          have hl21 := hl21.mono S_
          have h25 := S_ _ _ h25
          have hl26 := hl26.mono S_
          have h34 := h34.mono S_
          have h39 := S_ _ _ h39
          have hl40 := hl40.mono S_
          have S51 := S51.trans S_
          have h85 := h85.mono S_
          have h99 := S_ _ _ h99
          have hl100 := hl100.mono S_
          have hl122 := hl122.mono S_
          have r124 := r124.mono S_
          have h128 := S_ _ _ h128
          have r131 := r131.mono S_
          have r132 := r132.mono S_
          have h136 := S_ _ _ h136
          have hl137 := hl137.mono S_
          have h144 := h144.mono S_
          have r235 := r235.mono S_
          have h359 := S_ _ _ h359
          have hl360 := hl360.mono S_
          have S371 := S371.trans S_
          have r378 := r378.mono S_
          have h381 := S_ _ _ h381
          refine ⟨_, rfl, ?_⟩
          refine iteBN (fun q392 => ?_) (fun q392 => ?_)
          · have hk := wp_if hk q392
            exact ⟨F388, (), some (V.int y361.1), some (V.int y361.2), rfl, S371, O391, hk⟩
          · have hk := wp_el hk q392
            exact hk _ _  O391.g 
        rintro sg393 H394 ⟨F400, st396, t398, t399, rfl, S395, O401, hL397⟩
        rw [drop_end hl360.len] at hL397
        have hk := hLd365 _ hL397
        have f_script := S395.seq f_script
        have h7 := h7.mono S395
        have h15 := h15.mono S395
        have h20 := S395 _ _ h20
        have hl21 := hl21.mono S395
        have h25 := S395 _ _ h25
        have hl26 := hl26.mono S395
        have h34 := h34.mono S395
        have h39 := S395 _ _ h39
        have hl40 := hl40.mono S395
        have S51 := S51.trans S395
        have h85 := h85.mono S395
        have h99 := S395 _ _ h99
        have hl100 := hl100.mono S395
        have hl122 := hl122.mono S395
        have r124 := r124.mono S395
        have h128 := S395 _ _ h128
        have r131 := r131.mono S395
        have r132 := r132.mono S395
        have h136 := S395 _ _ h136
        have hl137 := hl137.mono S395
        have h144 := h144.mono S395
        have r235 := r235.mono S395
        have h359 := S395 _ _ h359
        have hl360 := hl360.mono S395
        have O403 := O401.drop 0
        exact ⟨F400, (), some (V.int y41), some (V.ref p70), some (V.ref p126), some (V.int (r115.1.1.length : Int)), some (V.ref p356), t398, t399, rfl, S51, O403, hk⟩
    rintro sg404 H405 ⟨F416, st407, t409, t410, t411, t412, t413, t414, t415, rfl, S406, O417, hL408⟩
    rw [drop_end hl40.len] at hL408
    have hk := hLd45 _ hL408
    have f_script := S406.seq f_script
    have h7 := h7.mono S406
    have h15 := h15.mono S406
    have h20 := S406 _ _ h20
    have hl21 := hl21.mono S406
    have h25 := S406 _ _ h25
    have hl26 := hl26.mono S406
    have h34 := h34.mono S406
    have h39 := S406 _ _ h39
    have hl40 := hl40.mono S406
    exact hk _ _  O417.g 
end
set_option maxHeartbeats 2000000
/-! ### the law's own helpers -/
theorem take_ok (d m : Int) (h : 0 < m) (h2 : m ≤ 10 ^ 40) : m_law_take [d] m = .ok (d % m, [d / m]) := by
  unfold m_law_take
  rw [opt_b (show L2.atI [d] (0 : Int) = some d from rfl), chk_b h, opt_b (show L2.atI [d] (0 : Int) = some d from rfl), chk_b (cdivW h h2)]
  rfl
theorem pow10 (n : Nat) : (10 : Int) ^ n = ((10 ^ n : Nat) : Int) := by rw [Int.natCast_pow]; rfl
theorem stir_ok (c k : Int) (h : 1 ≤ k ∧ k ≤ 3) : ∃ s, m_law_stir c k = .ok s ∧ 0 ≤ s ∧ s < 10 ^ 62 := by
  unfold m_law_stir
  have e40 : (10 : Int) ^ Int.toNat (40 : Int) = 10000000000000000000000000000000000000000 := by decide
  have e60 : (3 : Int) ^ Int.toNat (60 : Int) = 42391158275216203514294433201 := by decide
  have e61 : (10 : Int) ^ Int.toNat (61 : Int) = 10000000000000000000000000000000000000000000000000000000000000 := by decide
  rw [e40, e60, e61]
  obtain ⟨r, hr⟩ : ∃ r, r = c % 10000000000000000000000000000000000000000 := ⟨_, rfl⟩
  have r0 : 0 ≤ r := by omega
  have r1 : r < 10000000000000000000000000000000000000000 := by omega
  rw [← hr]
  rw [chk_b (by decide)]
  rw [chk_b (cmulW (Nat.lt_of_lt_of_le (m := 10 ^ 40) (by omega) (by decide +kernel)) (by decide +kernel))]
  rw [chk_b (cmulW (by decide +kernel) (Nat.lt_of_lt_of_le (m := 5) (by omega) (by decide +kernel)))]
  obtain ⟨q, hq⟩ : ∃ q, q = 42391158275216203514294433201 * (k + 1) := ⟨_, rfl⟩
  have q0 : 0 ≤ q ∧ q ≤ 42391158275216203514294433201 * 4 := by omega
  rw [← hq]
  rw [chk_b (cmulW (Nat.lt_of_lt_of_le (m := 10 ^ 40) (by omega) (by decide +kernel)) (Nat.lt_of_lt_of_le (m := 5) (by omega) (by decide +kernel)))]
  have q2 : 0 ≤ q * (k + 1) ∧ q * (k + 1) ≤ 42391158275216203514294433201 * 16 := by
    have : k = 1 ∨ k = 2 ∨ k = 3 := by omega
    rcases this with rfl | rfl | rfl <;> omega
  rw [ret_b]
  obtain ⟨n, hn⟩ : ∃ n, n = r * 48271 + q * (k + 1) + k := ⟨_, rfl⟩
  rw [← hn]
  have n0 : 0 ≤ n := by omega
  have n1 : n.natAbs < 2 ^ 160 := Nat.lt_of_lt_of_le (m := 10 ^ 46) (by omega) (by decide)
  rw [chk_b (cmulW (Nat.lt_of_lt_of_le n1 (Nat.pow_le_pow_right (by decide) (by decide))) (Nat.lt_of_lt_of_le n1 (Nat.pow_le_pow_right (by decide) (by decide))))]
  rw [chk_b (cmulW (by decide +kernel) (Nat.lt_of_lt_of_le n1 (Nat.pow_le_pow_right (by decide) (by decide))))]
  rw [ret_b]
  have m1 : (n * n).natAbs < 2 ^ (160 + 160) := wide_lt n1 n1
  have m2 : ((69621 : Int) * n).natAbs < 2 ^ (17 + 160) := wide_lt (by decide) n1
  have m3 : (n * n + 69621 * n).natAbs < 2 ^ 321 := by
    have a1 := Int.natAbs_add_le (n * n) (69621 * n)
    have a2 : (2 : Nat) ^ (17 + 160) ≤ 2 ^ 320 := Nat.pow_le_pow_right (by decide) (by decide)
    have a3 : (2 : Nat) ^ 321 = 2 ^ 320 + 2 ^ 320 := by decide
    omega
  rw [chk_b (cmulW (Nat.lt_of_lt_of_le m3 (Nat.pow_le_pow_right (by decide) (by decide))) (Nat.lt_of_lt_of_le m3 (Nat.pow_le_pow_right (by decide) (by decide))))]
  rw [chk_b (by decide), chk_b (cdivW (by decide) (by decide))]
  refine ⟨_, rfl, ?_⟩
  have : (10 : Int) ^ 62 = 100000000000000000000000000000000000000000000000000000000000000 := by decide
  rw [this]
  omega
theorem deck_ok (c : Int) : ∃ d, m_law_deck c = .ok [d] := by
  unfold m_law_deck
  have e60 : (10 : Int) ^ Int.toNat (60 : Int) = 10 ^ 60 := rfl
  by_cases h : (10 : Int) ^ Int.toNat (18 : Int) ≤ c
  · rw [if_pos h]
    exact ⟨_, rfl⟩
  · rw [if_neg h]
    obtain ⟨s1, e1, a1, b1⟩ := stir_ok c 1 (by decide)
    obtain ⟨s2, e2, a2, b2⟩ := stir_ok c 2 (by decide)
    obtain ⟨s3, e3, _, _⟩ := stir_ok c 3 (by decide)
    have k62 : ((10 : Int) ^ 62).natAbs < 2 ^ 210 := by decide
    have w1 : s1.natAbs < 2 ^ 210 := wide_le a1 (Int.le_of_lt b1) k62
    have w2 : s2.natAbs < 2 ^ 210 := wide_le a2 (Int.le_of_lt b2) k62
    have k60 : ((10 : Int) ^ 60).natAbs < 2 ^ 200 := by decide
    rw [bind_ok e1, e60, chk_b (cmulW (Nat.lt_of_lt_of_le w1 (Nat.pow_le_pow_right (by decide) (by decide))) (Nat.lt_of_lt_of_le k60 (Nat.pow_le_pow_right (by decide) (by decide)))), bind_ok e2]
    have m1 : (s1 * 10 ^ 60).natAbs < 2 ^ (210 + 200) := wide_lt w1 k60
    have m2 : (s1 * 10 ^ 60 + s2).natAbs < 2 ^ 411 := by
      have x1 := Int.natAbs_add_le (s1 * 10 ^ 60) s2
      have x2 : (2 : Nat) ^ 210 ≤ 2 ^ 410 := Nat.pow_le_pow_right (by decide) (by decide)
      have x3 : (2 : Nat) ^ 411 = 2 ^ 410 + 2 ^ 410 := by decide
      omega
    rw [chk_b (cmulW (Nat.lt_of_lt_of_le m2 (Nat.pow_le_pow_right (by decide) (by decide))) (Nat.lt_of_lt_of_le k60 (Nat.pow_le_pow_right (by decide) (by decide)))), bind_ok e3]
    exact ⟨_, rfl⟩
/-- how far numbers go -/
def farB : Int := 100000000000000000000000000000
theorem number_ok (d far : Int) (h : 0 ≤ far) (h2 : far ≤ farB) : ∃ x d', m_law_number [d] far = .ok (x, [d']) ∧ -far ≤ x ∧ x ≤ far := by
  unfold m_law_number
  have hb : far ≤ 100000000000000000000000000000 := h2
  rw [chk_b (cmulW (by decide +kernel) (Nat.lt_of_lt_of_le (m := 10 ^ 40) (by omega) (by decide +kernel)))]
  rw [bind_ok (take_ok d (2 * far + 1) (by omega) (by have : (10 : Int) ^ 40 = 10000000000000000000000000000000000000000 := by decide
                                                      omega))]
  refine ⟨_, _, rfl, ?_, ?_⟩
  · show -far ≤ d % (2 * far + 1) - far
    have := Int.emod_nonneg d (show (2 * far + 1) ≠ 0 by omega)
    omega
  · show d % (2 * far + 1) - far ≤ far
    have := Int.emod_lt_of_pos d (show 0 < (2 * far + 1) by omega)
    omega
theorem take_small (d m : Int) (h : 0 < m) (h2 : m ≤ 1000000) : ∃ x d', m_law_take [d] m = .ok (x, [d']) ∧ 0 ≤ x ∧ x < m := by
  have k : (10 : Int) ^ 40 = 10000000000000000000000000000000000000000 := by decide
  exact ⟨_, _, take_ok d m h (by omega), Int.emod_nonneg _ (by omega), Int.emod_lt_of_pos _ h⟩
theorem nums_ok (far : Int) (h : 0 ≤ far) (h2 : far ≤ farB) {items : List Int} (hl : items.length < 16777216) (d : Int) :
    ∃ xs d', compS (fun (_ : Int) (st : List Int) => m_law_number st far >>= fun r => .ok (some r.1, r.2)) items [d] = .ok (xs, [d']) ∧ xs.length = items.length ∧ ∀ x ∈ xs, -far ≤ x ∧ x ≤ far := by
  obtain ⟨acc, st, e, ⟨d', rfl⟩, h3, h4⟩ := compS_run (f := fun (_ : Int) (st : List Int) => m_law_number st far >>= fun r => .ok (some r.1, r.2)) hl
    (fun pre acc st => (∃ d', st = [d']) ∧ acc.length = pre.length ∧ ∀ x ∈ acc, -far ≤ x ∧ x ≤ far) (x := [d]) ⟨⟨d, rfl⟩, rfl, fun _ h => nomatch h⟩ fun pre y post acc st _ ⟨⟨d', hd⟩, h3, h4⟩ => by
      subst hd
      obtain ⟨x, d2, e, hx⟩ := number_ok d' far h h2
      refine ⟨some x, [d2], by rw [bind_ok e], ⟨d2, rfl⟩, by simp [h3], fun z hz => ?_⟩
      rcases List.mem_append.mp hz with hz | hz
      · exact h4 z hz
      · rw [List.mem_singleton.mp hz]; exact hx
  exact ⟨acc, d', e, h3, h4⟩
theorem rangeL_mem {lo hi x : Int} : x ∈ rangeL lo hi ↔ lo ≤ x ∧ x < hi := by
  unfold rangeL
  rw [List.mem_map]
  constructor
  · rintro ⟨j, hj, rfl⟩
    have := List.mem_range.mp hj
    omega
  · rintro ⟨h1, h2⟩
    exact ⟨(x - lo).toNat, List.mem_range.mpr (by omega), by omega⟩
theorem rangeL_nodup (lo hi : Int) : (rangeL lo hi).Nodup := by
  unfold rangeL
  rw [List.nodup_iff_pairwise_ne, List.pairwise_map]
  exact List.nodup_range.imp fun h e => h (by omega)
/-- an order of all places -/
theorem order_ok (d n : Int) (h0 : 0 ≤ n) (h1 : n ≤ 1000000) : ∃ o d', m_law_order [d] n = .ok (o, [d']) ∧ o.Perm (rangeL 0 n) := by
  unfold m_law_order
  have hr : okR n := ⟨by omega, h1⟩
  rw [chk_b hr, chk_b hr]
  have hlen : (rangeL 0 n).length = n.toNat := by rw [rangeL_length]; omega
  obtain ⟨st, e, h2⟩ := loopN_run (f := fun (_ : Int) (st26 : (List Int) × (List Int) × (List Int)) =>
      m_law_take st26.2.2 (st26.2.1.length : Int) >>= fun r36 => popI st26.2.1 r36.1 >>= fun t54 => appL st26.1 t54.1 >>= fun _ => (.ok ((st26.1 ++ [t54.1]), t54.2, r36.2) : M _))
    (all := rangeL 0 n) (fun pre st => (∃ d', st.2.2 = [d']) ∧ (st.1 ++ st.2.1).Perm (rangeL 0 n) ∧ st.1.length = pre.length) (x := ([], rangeL 0 n, [d])) ⟨⟨d, rfl⟩, List.Perm.refl _, rfl⟩ fun pre y post st ea ⟨⟨d', hd⟩, hp, hl⟩ => by
      obtain ⟨fs, ls, ds⟩ := st
      have hd : ds = [d'] := hd
      subst hd
      have hp : (fs ++ ls).Perm (rangeL 0 n) := hp
      have hl : fs.length = pre.length := hl
      have hpl := hp.length_eq
      rw [List.length_append, hlen] at hpl
      have hal := congrArg List.length ea
      rw [List.length_append, List.length_cons, hlen] at hal
      obtain ⟨x, d2, ex, x0, x1⟩ := take_small d' (ls.length : Int) (by omega) (by omega)
      have hx : x.toNat < ls.length := by omega
      have eg : ls[x.toNat]? = some ls[x.toNat] := List.getElem?_eq_getElem hx
      refine ⟨(fs ++ [ls[x.toNat]], ls.eraseIdx x.toNat, [d2]), ?_, ⟨d2, rfl⟩, ?_, by simp [hl]⟩
      · show (m_law_take [d'] (ls.length : Int) >>= fun r36 => popI ls r36.1 >>= fun t54 => appL fs t54.1 >>= fun _ => (.ok ((fs ++ [t54.1]), t54.2, r36.2) : M _)) = _
        rw [bind_ok ex, bind_ok (popI_ok x0 eg (by omega)), bind_ok (appL_ok (by omega))]
      · show ((fs ++ [ls[x.toNat]]) ++ ls.eraseIdx x.toNat).Perm (rangeL 0 n)
        refine List.Perm.trans ?_ hp
        rw [List.append_assoc]
        refine List.Perm.append_left fs ?_
        show (ls[x.toNat] :: ls.eraseIdx x.toNat).Perm ls
        exact erase_perm hx
  obtain ⟨fs, ls, ds⟩ := st
  obtain ⟨⟨d', hd⟩, hp, hl⟩ := h2
  have hd : ds = [d'] := hd
  subst hd
  have hp : (fs ++ ls).Perm (rangeL 0 n) := hp
  have hl : fs.length = (rangeL 0 n).length := hl
  have hpl := hp.length_eq
  rw [List.length_append] at hpl
  have : ls = [] := List.length_eq_zero_iff.mp (by omega)
  subst this
  rw [List.append_nil] at hp
  rw [bind_ok e]
  exact ⟨fs, d', rfl, hp⟩

theorem at5 (a b c d e k : Int) (h : 0 ≤ k) (h5 : k < 5) (P : Int → Prop) (pa : P a) (pb : P b) (pc : P c) (pd : P d) (pe : P e) : ∃ x, L2.atI [a, b, c, d, e] k = some x ∧ P x := by
  obtain ⟨x, e1, e2⟩ := atI_some (xs := [a, b, c, d, e]) h (by simpa using h5)
  refine ⟨x, e1, ?_⟩
  have hm := List.mem_of_getElem? e2
  simp only [List.mem_cons, List.not_mem_nil, or_false] at hm
  rcases hm with rfl | rfl | rfl | rfl | rfl <;> assumption
theorem tree_ok (d most far : Int) (m1 : 1 ≤ most) (m2 : most ≤ 1000) (f0 : 0 ≤ far) (f1 : far ≤ farB) :
    ∃ t d', m_law_tree [d] most far = .ok (t, [d']) ∧ TreeOk t ∧ (t.1.length : Int) ≤ most ∧ (∀ x ∈ t.1, -far ≤ x ∧ x ≤ far) ∧ ∀ x ∈ t.2, -far ≤ x.c ∧ x.c ≤ far := by
  unfold m_law_tree
  obtain ⟨r, d1, e1, r0, r1⟩ := take_small d most (by omega) (by omega)
  rw [bind_ok e1]
  show ∃ t d', (m_law_order [d1] ((1 : Int) + r) >>= _) = _ ∧ _
  obtain ⟨o, d2, e2, po⟩ := order_ok d1 (1 + r) (by omega) (by omega)
  rw [bind_ok e2]
  obtain ⟨kd, d3, e3, k0, k5⟩ := take_small d2 5 (by decide) (by decide)
  show ∃ t d', (m_law_take [d2] 5 >>= _) = _ ∧ _
  rw [bind_ok e3, chk_b (show okR 1 by decide), chk_b (show okR (1 + r) from ⟨by omega, by omega⟩)]
  have olen : o.length = (1 + r).toNat := by
    have := po.length_eq
    rw [rangeL_length] at this
    omega
  have ond : o.Nodup := po.nodup_iff.mpr (rangeL_nodup _ _)
  obtain ⟨st, e4, h4⟩ := loopN_run (f := fun (y47 : Int) (st60 : (List Int) × (List (T3 Int Int Int))) =>
      m_law_take st60.1 y47 >>= fun r70 =>
      m_law_take r70.2 (3 : Int) >>= fun r79 =>
      m_law_take r79.2 y47 >>= fun r88 =>
      opt (atI ([r70.1, (y47 - (1 : Int)), (0 : Int), (if ((y47 - (1 : Int)) - r79.1) > (0 : Int) then ((y47 - (1 : Int)) - r79.1) else (0 : Int)), r88.1]) kd) >>= fun y110 =>
      opt (atI o y47) >>= fun y120 =>
      opt (atI o y110) >>= fun y130 =>
      opt (atI (sortT ([y120, y130])) (0 : Int)) >>= fun y161 =>
      opt (atI (sortT ([y120, y130])) (1 : Int)) >>= fun y171 =>
      m_law_number r88.2 far >>= fun r176 =>
      appL st60.2 (T3.mk y161 y171 r176.1) >>= fun _ =>
      (.ok (r176.2, (st60.2 ++ [(T3.mk y161 y171 r176.1)])) : M _)) (all := rangeL (1 : Int) ((1 : Int) + r)) (x := ([d3], []))
    (fun pre st => (∃ d', st.1 = [d']) ∧ Grown (o.take (pre.length + 1)) st.2 ∧ ∀ x ∈ st.2, -far ≤ x.c ∧ x.c ≤ far)
    ⟨⟨d3, rfl⟩, by
      cases o with
      | nil => simp at olen; omega
      | cons p o => exact Grown.one p, fun _ h => nomatch h⟩
    fun pre y post st ea ⟨⟨d', hd⟩, hg, hc⟩ => by
      obtain ⟨ds, ts⟩ := st
      have hd : ds = [d'] := hd
      subst hd
      have hg : Grown (o.take (pre.length + 1)) ts := hg
      have hc : ∀ x ∈ ts, -far ≤ x.c ∧ x.c ≤ far := hc
      -- the turn's number
      have hy : y = 1 + (pre.length : Int) ∧ pre.length < r.toNat := by
        have hl := congrArg List.length ea
        rw [rangeL_length, List.length_append, List.length_cons] at hl
        have hg2 : (rangeL 1 (1 + r))[pre.length]? = some y := by rw [ea]; simp
        unfold rangeL at hg2
        rw [List.getElem?_map, List.getElem?_range (by omega)] at hg2
        exact ⟨(Option.some.inj hg2).symm, by omega⟩
      obtain ⟨hy, hpl⟩ := hy
      obtain ⟨q1, d4, a1, b1, c1⟩ := take_small d' y (by omega) (by omega)
      obtain ⟨q2, d5, a2, b2, c2⟩ := take_small d4 3 (by decide) (by decide)
      obtain ⟨q3, d6, a3, b3, c3⟩ := take_small d5 y (by omega) (by omega)
      obtain ⟨at_, a4, b4, c4⟩ := at5 q1 (y - 1) 0 (if (y - 1) - q2 > 0 then (y - 1) - q2 else 0) q3 kd k0 k5 (fun x => 0 ≤ x ∧ x < y) ⟨b1, c1⟩ (by omega) (by omega) (by split <;> omega) ⟨b3, c3⟩
      obtain ⟨p, a5, b5⟩ := atI_some (xs := o) (j := y) (by omega) (by omega)
      obtain ⟨q, a6, b6⟩ := atI_some (xs := o) (j := at_) b4 (by omega)
      obtain ⟨c, d7, a7, b7⟩ := number_ok d6 far f0 f1
      have hq : q ∈ o.take (pre.length + 1) := by
        refine List.mem_iff_getElem?.mpr ⟨at_.toNat, ?_⟩
        rw [List.getElem?_take_of_lt (by omega)]
        exact b6
      have hp : p ∉ o.take (pre.length + 1) := fun hm => by
        obtain ⟨j, hj⟩ := List.mem_iff_getElem?.mp hm
        rw [List.getElem?_take] at hj
        split at hj
        · have := nd_ix ond hj b5
          omega
        · cases hj
      have hpq : p ≠ q := fun e => hp (e ▸ hq)
      have hs : sortT [p, q] = [(tieOf p q c).a, (tieOf p q c).b] := by
        rw [sort2]
        unfold tieOf
        by_cases hh : p ≤ q
        · rw [if_pos hh, if_pos hh]
        · rw [if_neg hh, if_neg hh]
      have hcc : (tieOf p q c).c = c := (tieOf_lt hpq).2.2
      have et : T3.mk (tieOf p q c).a (tieOf p q c).b c = tieOf p q c := PySem.W.T3.same rfl rfl hcc.symm
      have hlt : ts.length < 16777216 := by
        have := hg.len
        rw [List.length_take] at this
        omega
      refine ⟨([d7], ts ++ [tieOf p q c]), ?_, ⟨d7, rfl⟩, ?_, fun x hx => ?_⟩
      · show (m_law_take [d'] y >>= _) = _
        rw [bind_ok a1]
        show (m_law_take [d4] 3 >>= _) = _
        rw [bind_ok a2]
        show (m_law_take [d5] y >>= _) = _
        rw [bind_ok a3]
        show (opt (atI [q1, y - 1, 0, (if (y - 1) - q2 > 0 then (y - 1) - q2 else 0), q3] kd) >>= _) = _
        rw [opt_b a4, opt_b a5, opt_b a6, hs]
        rw [opt_b (show L2.atI [(tieOf p q c).a, (tieOf p q c).b] (0 : Int) = some (tieOf p q c).a from rfl), opt_b (show L2.atI [(tieOf p q c).a, (tieOf p q c).b] (1 : Int) = some (tieOf p q c).b from rfl)]
        show (m_law_number [d6] far >>= _) = _
        rw [bind_ok a7]
        show (appL ts (T3.mk (tieOf p q c).a (tieOf p q c).b c) >>= _) = _
        rw [bind_ok (appL_ok hlt)]
        show (Except.ok ([d7], ts ++ [T3.mk (tieOf p q c).a (tieOf p q c).b c]) : M _) = _
        rw [et]
      · have e5 : o.take ((pre ++ [y]).length + 1) = o.take (pre.length + 1) ++ [p] := by
          rw [List.length_append]
          show o.take (pre.length + 1 + 1) = _
          rw [List.take_succ]
          have e6 : y.toNat = pre.length + 1 := by omega
          rw [e6] at b5
          rw [b5]
          rfl
        rw [e5]
        exact Grown.more q p c hg hq hp
      · rcases List.mem_append.mp hx with hx | hx
        · exact hc x hx
        · rw [List.mem_singleton.mp hx, hcc]
          exact b7
  obtain ⟨ds, ts⟩ := st
  obtain ⟨⟨d8, hd⟩, hg, hc⟩ := h4
  have hd : ds = [d8] := hd
  subst hd
  have hg : Grown (o.take ((rangeL 1 (1 + r)).length + 1)) ts := hg
  have hc : ∀ x ∈ ts, -far ≤ x.c ∧ x.c ≤ far := hc
  rw [rangeL_length] at hg
  have e5 : o.take ((1 + r - 1).toNat + 1) = o := List.take_of_length_le (by omega)
  rw [e5] at hg
  show ∃ t d', (loopN _ (rangeL 1 (1 + r)) ([d3], []) >>= _) = _ ∧ _
  rw [bind_ok e4, chk_b (show okR (1 + r) from ⟨by omega, by omega⟩)]
  obtain ⟨ws, d9, e6, w1, w2⟩ := nums_ok far f0 f1 (items := rangeL 0 (1 + r)) (by rw [rangeL_length]; omega) d8
  show ∃ t d', (compS _ (rangeL 0 (1 + r)) [d8] >>= _) = _ ∧ _
  rw [bind_ok e6]
  rw [rangeL_length] at w1
  have hlen : ((1 + r).toNat : Int) = 1 + r := by omega
  refine ⟨(ws, sortT ts), d9, rfl, ⟨⟨o, ts, hg, ?_, rfl⟩⟩, ?_, w2, fun x hx => hc x (sortT_mem.mp hx)⟩
  · show o.Perm (rangeL 0 (ws.length : Int))
    have : (ws.length : Int) = 1 + r := by omega
    rw [this]
    exact po
  · show (ws.length : Int) ≤ most
    omega

theorem rangeL_len0 (n : Nat) : (rangeL 0 (n : Int)).length = n := by rw [rangeL_length]; omega
theorem are_whole_ok (xs : List Int) (h : xs.length < 16777216) : m_law_are_whole xs = .ok true := by
  unfold m_law_are_whole
  rw [bind_ok (compS_pure (fun _ => none) h fun y _ => by
    show (m_law_whole y >>= _) = _
    unfold m_law_whole
    rw [ok_b, if_pos rfl])]
  have : xs.filterMap (fun _ => (none : Option Int)) = [] := by
    induction xs with
    | nil => rfl
    | cons x xs ih => rw [List.filterMap_cons]; exact ih (by simp at h; omega)
  rw [this]
  rfl
theorem cut10 (ns : List Int) (k : Nat) : (cutL ns none (some (k : Int))).length ≤ ns.length := by
  unfold cutL
  rw [List.length_take, List.length_drop]
  omega
theorem at4 (k : Int) (h : 0 ≤ k) (h4 : k < 4) : ∃ x, L2.atI [(10 : Int), 10, 10, 40] k = some x ∧ (x = 10 ∨ x = 40) := by
  obtain ⟨x, e1, e2⟩ := atI_some (xs := [(10 : Int), 10, 10, 40]) h (by simpa using h4)
  refine ⟨x, e1, ?_⟩
  have hm := List.mem_of_getElem? e2
  simp only [List.mem_cons, List.not_mem_nil, or_false] at hm
  omega

theorem dPut_new {κ β : Type} [DecidableEq κ] {xs : List (κ × β)} {k : κ} {y : β} (h : ∀ p ∈ xs, p.1 ≠ k) : dPut xs k y = xs ++ [(k, y)] := by
  unfold dPut
  rw [if_neg]
  intro z
  obtain ⟨p, hp, e⟩ := List.any_eq_true.mp z
  exact h p hp (of_decide_eq_true e)

def lenOf (ts : List Tie) : List ((Int × Int) × Int) := ts.flatMap fun t => [((t.a, t.b), t.c), ((t.b, t.a), t.c)]
theorem lenOf_mem {ts : List Tie} {p : (Int × Int) × Int} : p ∈ lenOf ts ↔ ∃ t ∈ ts, p = ((t.a, t.b), t.c) ∨ p = ((t.b, t.a), t.c) := by
  unfold lenOf
  simp [List.mem_flatMap]
theorem lenOf_len : ∀ ts : List Tie, (lenOf ts).length = 2 * ts.length
  | [] => rfl
  | t :: ts => by
    show (lenOf ts).length + 1 + 1 = 2 * (ts.length + 1)
    rw [lenOf_len ts]
    omega
theorem grown_pairs {ps : List Int} {ts : List Tie} (g : Grown ps ts) : (ts.map fun x => (x.a, x.b)).Nodup := by
  induction g with
  | one p => exact List.nodup_nil
  | @more ps ts q p c g hq hp ih =>
    rw [List.map_append, List.nodup_append]
    refine ⟨ih, by simp, fun x hx y hy e => ?_⟩
    obtain ⟨t, ht, rfl⟩ := List.mem_map.mp hx
    rw [List.map_singleton, List.mem_singleton] at hy
    have hpq : p ≠ q := fun z => hp (z ▸ hq)
    obtain ⟨h1, h2, _⟩ := tieOf_lt (c := c) hpq
    obtain ⟨i1, i2, _⟩ := g.in t ht
    rw [hy] at e
    injection e with e1 e2
    rcases h2 with ⟨a, b⟩ | ⟨a, b⟩
    · rw [e1, a] at i1; exact hp i1
    · rw [e2, b] at i2; exact hp i2
theorem tree_pairs {t : Tr} (h : TreeOk t) : (t.2.map fun x => (x.a, x.b)).Nodup := by
  obtain ⟨o, ts, g, _, e⟩ := h.ex
  rw [e]
  exact ((sortT_perm ts).map _).nodup_iff.mpr (grown_pairs g)
theorem lengths_ok (t : Tr) (ht : TreeOk t) (hn : t.1.length ≤ 1000000) : m_lengths_of t = .ok (lenOf t.2) := by
  have hlen := ht.len
  have nd := tree_pairs ht
  obtain ⟨st, e1, e2⟩ := loopN_run (f := fun (y19 : (T3 Int Int Int)) (st30 : (List ((Int × Int) × Int))) =>
    putD st30 ((y19.a, y19.b).1, (y19.a, y19.b).2) y19.c >>= fun z64 =>
    putD z64 ((y19.b, y19.a).1, (y19.b, y19.a).2) y19.c >>= fun z82 =>
    (.ok z82 : M _)) (all := t.2) (x := []) (fun pre st => st = lenOf pre) rfl fun pre y post st ea es => by
      subst es
      have hm : ∀ x ∈ pre, x ∈ t.2 := fun x hx => by rw [ea]; exact List.mem_append_left _ hx
      have hy := ht.tie y (by rw [ea]; simp)
      have hlp : (lenOf pre).length = 2 * pre.length := lenOf_len pre
      have hpl : pre.length + 1 ≤ t.2.length := by
        rw [ea, List.length_append, List.length_cons]
        omega
      have n1 : ∀ x ∈ pre, ¬ (x.a = y.a ∧ x.b = y.b) := fun x hx ⟨z1, z2⟩ => by
        rw [ea, List.map_append, List.map_cons, List.nodup_append] at nd
        exact nd.2.2 (x.a, x.b) (List.mem_map.mpr ⟨x, hx, rfl⟩) (y.a, y.b) List.mem_cons_self (by rw [z1, z2])
      have k1 : ∀ p ∈ lenOf pre, p.1 ≠ (y.a, y.b) := fun p hp e => by
        obtain ⟨x, hx, h | h⟩ := lenOf_mem.mp hp
        · rw [h] at e; injection e with z1 z2; exact n1 x hx ⟨z1, z2⟩
        · rw [h] at e
          injection e with z1 z2
          have := ht.tie x (hm x hx)
          have z1 : x.b = y.a := z1
          have z2 : x.a = y.b := z2
          omega
      have k2 : ∀ p ∈ lenOf pre ++ [((y.a, y.b), y.c)], p.1 ≠ (y.b, y.a) := fun p hp e => by
        rcases List.mem_append.mp hp with hp | hp
        · obtain ⟨x, hx, h | h⟩ := lenOf_mem.mp hp
          · rw [h] at e
            injection e with z1 z2
            have := ht.tie x (hm x hx)
            have z1 : x.a = y.b := z1
            have z2 : x.b = y.a := z2
            omega
          · rw [h] at e; injection e with z1 z2; exact n1 x hx ⟨z2, z1⟩
        · rw [List.mem_singleton.mp hp] at e
          injection e with z1 z2
          have z1 : y.a = y.b := z1
          omega
      refine ⟨_, ?_, rfl⟩
      show (putD (lenOf pre) (y.a, y.b) y.c >>= fun z64 => putD z64 (y.b, y.a) y.c >>= fun z82 => _) = _
      rw [bind_ok (show putD (lenOf pre) (y.a, y.b) y.c = .ok (lenOf pre ++ [((y.a, y.b), y.c)]) by unfold putD; rw [if_pos (by omega), dPut_new k1])]
      rw [bind_ok (show putD (lenOf pre ++ [((y.a, y.b), y.c)]) (y.b, y.a) y.c = .ok ((lenOf pre ++ [((y.a, y.b), y.c)]) ++ [((y.b, y.a), y.c)]) by unfold putD; rw [if_pos (by rw [List.length_append, List.length_singleton]; omega), dPut_new k2])]
      unfold lenOf
      rw [List.flatMap_append, List.append_assoc]
      rfl
  unfold m_lengths_of
  rw [bind_ok e1, e2]
theorem keys_perm : ∀ ts : List Tie, ((lenOf ts).map (·.1)).Perm (ts.map (fun t => (t.a, t.b)) ++ ts.map (fun t => (t.b, t.a)))
  | [] => .nil
  | t :: ts => by
    show ((t.a, t.b) :: (t.b, t.a) :: (lenOf ts).map (·.1)).Perm ((t.a, t.b) :: (ts.map (fun t => (t.a, t.b)) ++ (t.b, t.a) :: ts.map (fun t => (t.b, t.a))))
    refine .cons _ (((keys_perm ts).cons _).trans List.perm_middle.symm)

/-! ### neighbours -/
def other (p : Int) (t : Tie) : Option Int := if t.a = p then some t.b else if t.b = p then some t.a else none
/-- the neighbours of a place, rising -/
def nearOf (ties : List Tie) (p : Int) : List Int := sortT (ties.filterMap (other p))
def nearAll (n : Nat) (ties : List Tie) : List (List Int) := (List.range n).map fun (i : Nat) => nearOf ties (i : Int)
theorem addAt_ok {fs : List (List Int)} {x y : Int} {l : List Int} (h0 : 0 ≤ x) (h : fs[x.toNat]? = some l) (hl : l.length < 16777216) : addAt fs x y = .ok (fs.set x.toNat (l ++ [y])) := by
  have h1 := (List.getElem?_eq_some_iff.mp h).1
  unfold addAt
  rw [ixN_nat h0 (by omega)]
  show (match fs[x.toNat]? with
    | some x_1 => appL x_1 y >>= fun y => .ok (fs.set x.toNat y)
    | none => bad) = _
  rw [h]
  show (appL l y >>= fun y => (.ok (fs.set x.toNat y) : M _)) = _
  rw [bind_ok (appL_ok hl)]
theorem tied_places_ok (n : Int) (ties : List Tie) (h0 : 0 ≤ n) (h1 : n ≤ 1000000) (hl : ties.length < 16777216) (hv : ∀ t ∈ ties, 0 ≤ t.a ∧ t.a < t.b ∧ t.b < n) : m_tied_places n ties = .ok (nearAll n.toNat ties) := by
  unfold m_tied_places
  rw [chk_b (show okR n from ⟨by omega, h1⟩)]
  obtain ⟨fs, e, h⟩ := loopN_run (f := fun (t : T3 Int Int Int) (fs : List (List Int)) => addAt fs t.a t.b >>= fun f1 => addAt f1 t.b t.a) (all := sortT ties) (x := List.replicate n.toNat [])
    (fun pre fs => fs = (List.range n.toNat).map fun (i : Nat) => pre.filterMap (other (i : Int))) (by
      refine List.ext_getElem? fun i => ?_
      rw [List.getElem?_replicate, List.getElem?_map]
      by_cases hi : i < n.toNat
      · rw [if_pos hi, List.getElem?_range hi]; rfl
      · rw [if_neg hi, List.getElem?_eq_none (by simpa using hi)]; rfl) fun pre t post fs ea hf => by
      subst hf
      have mt : t ∈ ties := sortT_mem.mp (by rw [ea]; simp)
      obtain ⟨a0, ab, bn⟩ := hv t mt
      have plen : pre.length < 16777216 := by
        have := congrArg List.length ea
        rw [sortT_len, List.length_append, List.length_cons] at this
        omega
      have g1 : ((List.range n.toNat).map fun (i : Nat) => pre.filterMap (other (i : Int)))[t.a.toNat]? = some (pre.filterMap (other t.a)) := by
        rw [List.getElem?_map, List.getElem?_range (by omega)]
        show some (pre.filterMap (other ((t.a.toNat : Nat) : Int))) = _
        rw [Int.toNat_of_nonneg a0]
      have l1 : (pre.filterMap (other t.a)).length < 16777216 := Nat.lt_of_le_of_lt (List.length_filterMap_le _ _) plen
      have g2 : (((List.range n.toNat).map fun (i : Nat) => pre.filterMap (other (i : Int))).set t.a.toNat (pre.filterMap (other t.a) ++ [t.b]))[t.b.toNat]? = some (pre.filterMap (other t.b)) := by
        rw [List.getElem?_set_ne (by omega), List.getElem?_map, List.getElem?_range (by omega)]
        show some (pre.filterMap (other ((t.b.toNat : Nat) : Int))) = _
        rw [Int.toNat_of_nonneg (by omega)]
      have l2 : (pre.filterMap (other t.b)).length < 16777216 := Nat.lt_of_le_of_lt (List.length_filterMap_le _ _) plen
      refine ⟨_, by rw [bind_ok (addAt_ok a0 g1 l1)]; exact addAt_ok (by omega) g2 l2, ?_⟩
      refine List.ext_getElem? fun i => ?_
      rw [List.getElem?_map]
      by_cases hi : i < n.toNat
      · rw [List.getElem?_range hi]
        show _ = some ((pre ++ [t]).filterMap (other (i : Int)))
        rw [List.filterMap_append]
        by_cases hb : t.b.toNat = i
        · subst hb
          rw [List.getElem?_set_self (by simpa using hi)]
          have e1 : other ((t.b.toNat : Nat) : Int) t = some t.a := by
            unfold other
            rw [if_neg (by omega), if_pos (by omega)]
          have e2 : ((t.b.toNat : Nat) : Int) = t.b := Int.toNat_of_nonneg (by omega)
          rw [List.filterMap_cons, e1, List.filterMap_nil, e2]
        · rw [List.getElem?_set_ne hb]
          by_cases ha : t.a.toNat = i
          · subst ha
            rw [List.getElem?_set_self (by simpa using hi)]
            have e1 : other ((t.a.toNat : Nat) : Int) t = some t.b := by
              unfold other
              rw [if_pos (by omega)]
            have e2 : ((t.a.toNat : Nat) : Int) = t.a := Int.toNat_of_nonneg a0
            rw [List.filterMap_cons, e1, List.filterMap_nil, e2]
          · rw [List.getElem?_set_ne ha, List.getElem?_map, List.getElem?_range hi]
            have e1 : other (i : Int) t = none := by
              unfold other
              rw [if_neg (by omega), if_neg (by omega)]
            rw [List.filterMap_cons, e1, List.filterMap_nil, List.append_nil]
            rfl
      · have z : (List.range n.toNat)[i]? = none := List.getElem?_eq_none (by simpa using hi)
        rw [z]
        show _ = none
        refine List.getElem?_eq_none ?_
        rw [List.length_set, List.length_set, List.length_map, List.length_range]
        omega
  rw [bind_ok e, h]
  refine congrArg Except.ok ?_
  unfold nearAll
  rw [List.map_map]
  refine List.map_congr_left fun i _ => ?_
  show sortT ((sortT ties).filterMap (other (i : Int))) = nearOf ties (i : Int)
  exact sortT_eq ((sortT_perm ties).filterMap _)
theorem nearAll_at {n : Nat} {ties : List Tie} {p : Int} (h0 : 0 ≤ p) (h : p < n) : L2.atI (nearAll n ties) p = some (nearOf ties p) := by
  refine atI_of h0 ?_
  unfold nearAll
  rw [List.getElem?_map, List.getElem?_range (by omega)]
  show some (nearOf ties ((p.toNat : Nat) : Int)) = _
  rw [Int.toNat_of_nonneg h0]

theorem whL_run {s r : Type} {b : s → M (Ws s r)} (P : s → Prop) (μ : s → Nat) (Qf : s → Prop) (step : ∀ x, P x → (∃ x', b x = .ok (.go x') ∧ P x' ∧ μ x' < μ x) ∨ (∃ x', b x = .ok (.stop x') ∧ Qf x')) : ∀ (n : Nat) (x : s), P x → μ x < n → ∃ x', whL b n x = .ok (.nx x') ∧ Qf x'
  | 0, x, _, h => absurd h (Nat.not_lt_zero _)
  | n + 1, x, p, h => by
    rcases step x p with ⟨x', e, p', l⟩ | ⟨x', e, q⟩
    · obtain ⟨x2, e2, q2⟩ := whL_run P μ Qf step n x' p' (by omega)
      refine ⟨x2, ?_, q2⟩
      show (b x >>= _) = _
      rw [bind_ok e]
      exact e2
    · refine ⟨x', ?_, q⟩
      show (b x >>= _) = _
      rw [bind_ok e]
theorem nd_sub_len {a : Type} [DecidableEq a] : ∀ {l m : List a}, l.Nodup → (∀ x ∈ l, x ∈ m) → l.length ≤ m.length
  | [], _, _, _ => Nat.zero_le _
  | x :: l, m, nd, h => by
    have hx := h x List.mem_cons_self
    obtain ⟨n1, n2⟩ := List.nodup_cons.mp nd
    have := nd_sub_len (l := l) (m := m.erase x) n2 fun y hy => (List.mem_erase_of_ne fun e => n1 (by rw [← e]; exact hy)).mpr (h y (List.mem_cons_of_mem _ hy))
    rw [List.length_erase_of_mem hx] at this
    have hp := List.length_pos_of_mem hx
    rw [List.length_cons]
    omega
theorem nearOf_mem {ts : List Tie} {x y : Int} (h : ∀ t ∈ ts, t.a < t.b) : y ∈ nearOf ts x ↔ ∃ t ∈ ts, (t.a = x ∧ t.b = y) ∨ (t.b = x ∧ t.a = y) := by
  unfold nearOf
  rw [sortT_mem, List.mem_filterMap]
  constructor
  · rintro ⟨t, ht, e⟩
    unfold other at e
    by_cases ha : t.a = x
    · rw [if_pos ha] at e
      exact ⟨t, ht, .inl ⟨ha, Option.some.inj e⟩⟩
    · rw [if_neg ha] at e
      by_cases hb : t.b = x
      · rw [if_pos hb] at e
        exact ⟨t, ht, .inr ⟨hb, Option.some.inj e⟩⟩
      · rw [if_neg hb] at e; cases e
  · rintro ⟨t, ht, ⟨ha, hb⟩ | ⟨hb, ha⟩⟩
    · refine ⟨t, ht, ?_⟩
      unfold other
      rw [if_pos ha, hb]
    · refine ⟨t, ht, ?_⟩
      have := h t ht
      unfold other
      rw [if_neg (by omega), if_pos hb, ha]
/-- what holds of one place and goes over ties holds of all -/
theorem grown_all {ps : List Int} {ts : List Tie} (g : Grown ps ts) (S : Int → Prop) (hS : ∀ t ∈ ts, S t.a ↔ S t.b) : (∃ x ∈ ps, S x) → ∀ x ∈ ps, S x := by
  induction g with
  | one p =>
    rintro ⟨x, hx, h⟩ y hy
    rw [List.mem_singleton.mp hx] at h
    rw [List.mem_singleton.mp hy]
    exact h
  | @more ps ts q p c g hq hp ih =>
    have ih := ih fun t ht => hS t (List.mem_append_left _ ht)
    have hpq : p ≠ q := fun z => hp (z ▸ hq)
    have hl := hS (tieOf p q c) (by simp)
    obtain ⟨_, h2, _⟩ := tieOf_lt (c := c) hpq
    have hpq2 : S p ↔ S q := by
      rcases h2 with ⟨a, b⟩ | ⟨a, b⟩
      · rw [a, b] at hl; exact hl
      · rw [a, b] at hl; exact hl.symm
    rintro ⟨x, hx, h⟩
    have hall : ∀ y ∈ ps, S y := by
      rcases List.mem_append.mp hx with hx | hx
      · exact ih ⟨x, hx, h⟩
      · rw [List.mem_singleton.mp hx] at h
        exact ih ⟨q, hq, hpq2.mp h⟩
    intro y hy
    rcases List.mem_append.mp hy with hy | hy
    · exact hall y hy
    · rw [List.mem_singleton.mp hy]
      exact hpq2.mpr (hall q hq)
theorem tree_all {t : Tr} (ht : TreeOk t) (S : Int → Prop) (hS : ∀ x ∈ t.2, S x.a ↔ S x.b) (x : Int) (x0 : 0 ≤ x) (x1 : x < (t.1.length : Int)) (h : S x) : ∀ y, 0 ≤ y → y < (t.1.length : Int) → S y := by
  obtain ⟨ps, ts, g, p, e⟩ := ht.ex
  rw [e] at hS
  intro y y0 y1
  exact grown_all g S (fun t ht => hS t (sortT_mem.mpr ht)) ⟨x, p.mem_iff.mpr (rangeL_mem.mpr ⟨x0, x1⟩), h⟩ y (p.mem_iff.mpr (rangeL_mem.mpr ⟨y0, y1⟩))
theorem nearAll_len (n : Nat) (ts : List Tie) : (nearAll n ts).length = n := by unfold nearAll; simp

theorem far_ok (d : Int) : ∃ f d', m_law_far [d] = .ok (f, [d']) ∧ 0 ≤ f ∧ f ≤ farB := by
  obtain ⟨k, d', e, k0, k3⟩ := take_small d 3 (by decide) (by decide)
  obtain ⟨x, e1, e2⟩ := atI_some (xs := [(4 : Int), 1000, farB]) (j := k) k0 (by simpa using k3)
  refine ⟨x, d', ?_, ?_⟩
  · unfold m_law_far
    rw [bind_ok e]
    show (opt (atI [(4 : Int), 1000, (10 : Int) ^ Int.toNat 29] k) >>= _) = _
    rw [show (10 : Int) ^ Int.toNat 29 = farB by decide, opt_b e1]
  · have hm := List.mem_of_getElem? e2
    simp only [List.mem_cons, List.not_mem_nil, or_false] at hm
    unfold farB at *
    omega

/-! ### ways -/
def Step (t : Tr) (x y c : Int) : Prop := ∃ z ∈ t.2, ((z.a = x ∧ z.b = y) ∨ (z.a = y ∧ z.b = x)) ∧ z.c = c
theorem whL_runN {s r : Type} {b : s → M (Ws s r)} (P : Nat → s → Prop) (Qf : s → Prop) (step : ∀ m x, P m x → (∃ x' m', m' < m ∧ b x = .ok (.go x') ∧ P m' x') ∨ (∃ x', b x = .ok (.stop x') ∧ Qf x')) : ∀ (n m : Nat) (x : s), P m x → m < n → ∃ x', whL b n x = .ok (.nx x') ∧ Qf x'
  | 0, m, x, _, h => absurd h (Nat.not_lt_zero _)
  | n + 1, m, x, p, h => by
    rcases step m x p with ⟨x', m', l, e, p'⟩ | ⟨x', e, q⟩
    · obtain ⟨x2, e2, q2⟩ := whL_runN P Qf step n m' x' p' (by omega)
      refine ⟨x2, ?_, q2⟩
      show (b x >>= _) = _
      rw [bind_ok e]
      exact e2
    · refine ⟨x', ?_, q⟩
      show (b x >>= _) = _
      rw [bind_ok e]
theorem dGet_mem {κ β : Type} [DecidableEq κ] [Py β] : ∀ {xs : List (κ × β)} {k : κ} {v : β}, (xs.map (·.1)).Nodup → (k, v) ∈ xs → dGet xs k = some v
  | [], _, _, _, h => by cases h
  | p :: xs, k, v, nd, h => by
    rw [List.map_cons, List.nodup_cons] at nd
    rcases List.mem_cons.mp h with e | h
    · rw [← e]; exact dGet_pos rfl
    · rw [dGet_neg (fun e => nd.1 (List.mem_map.mpr ⟨(k, v), h, e.symm⟩))]
      exact dGet_mem nd.2 h
theorem dHas_iff {κ β : Type} [DecidableEq κ] [Py β] : ∀ {xs : List (κ × β)} {k : κ}, dHas xs k = true ↔ k ∈ xs.map (·.1)
  | [], k => by simp [dHas, dGet]
  | p :: xs, k => by
    rw [List.map_cons, List.mem_cons]
    unfold dHas
    by_cases e : p.1 = k
    · rw [dGet_pos e]; simp [e]
    · rw [dGet_neg e]
      have := dHas_iff (xs := xs) (k := k)
      unfold dHas at this
      rw [this]
      constructor
      · exact .inr
      · rintro (z | z)
        · exact (e z.symm).elim
        · exact z
theorem lenOf_nd {t : Tr} (ht : TreeOk t) : ((lenOf t.2).map (·.1)).Nodup := by
  refine (keys_perm t.2).nodup_iff.mpr (List.nodup_append.mpr ⟨tree_pairs ht, ?_, ?_⟩)
  · have h : (t.2.map fun x => (x.b, x.a)) = (t.2.map fun x => (x.a, x.b)).map fun p => (p.2, p.1) := by rw [List.map_map]; rfl
    rw [h]
    refine List.Pairwise.map _ ?_ (tree_pairs ht)
    intro a b hab e
    injection e with e1 e2
    exact hab (Prod.ext e2 e1)
  · rintro p hp q hq e
    subst e
    obtain ⟨x, hx, e1⟩ := List.mem_map.mp hp
    obtain ⟨y, hy, e2⟩ := List.mem_map.mp hq
    have h1 := ht.tie x hx
    have h2 := ht.tie y hy
    rw [← e2] at e1
    injection e1 with a1 a2
    omega
theorem step_len {t : Tr} (ht : TreeOk t) {x y c : Int} (h : Step t x y c) : dGet (lenOf t.2) (x, y) = some c := by
  obtain ⟨z, hz, ⟨a, b⟩ | ⟨a, b⟩, e⟩ := h
  · exact dGet_mem (lenOf_nd ht) (lenOf_mem.mpr ⟨z, hz, .inl (by rw [a, b, e])⟩)
  · exact dGet_mem (lenOf_nd ht) (lenOf_mem.mpr ⟨z, hz, .inr (by rw [a, b, e])⟩)
theorem step_rg {t : Tr} (ht : TreeOk t) {x y c : Int} (h : Step t x y c) : (0 ≤ x ∧ x < (t.1.length : Int)) ∧ (0 ≤ y ∧ y < (t.1.length : Int)) ∧ x ≠ y := by
  obtain ⟨z, hz, h, e⟩ := h
  have := ht.tie z hz
  omega
theorem near_step {t : Tr} (ht : TreeOk t) {x y : Int} : y ∈ nearOf t.2 x ↔ ∃ c, Step t x y c := by
  rw [nearOf_mem fun z hz => (ht.tie z hz).2.1]
  constructor
  · rintro ⟨z, hz, h⟩
    exact ⟨z.c, z, hz, by omega, rfl⟩
  · rintro ⟨c, z, hz, h, e⟩
    exact ⟨z, hz, by omega⟩
structure Bh (t : Tr) (o : Int) (b : List (Int × Option Int)) : Prop where
  hd : b[0]? = some (o, none)
  nd : (b.map (·.1)).Nodup
  rg : ∀ x ∈ b.map (·.1), 0 ≤ x ∧ x < (t.1.length : Int)
  bk : ∀ (i : Nat) k q, b[i]? = some (k, q) → i = 0 ∨ ∃ (h : Int) (j : Nat) (q' : Option Int) (c : Int), q = some h ∧ j < i ∧ b[j]? = some (h, q') ∧ Step t k h c
theorem Bh.len {t : Tr} {o : Int} {b : List (Int × Option Int)} (B : Bh t o b) : b.length ≤ t.1.length := by
  have := nd_sub_len (m := rangeL 0 (t.1.length : Int)) B.nd fun x hx => rangeL_mem.mpr (B.rg x hx)
  rw [rangeL_len0, List.length_map] at this
  exact this
theorem Bh.add {t : Tr} {o : Int} {b : List (Int × Option Int)} (B : Bh t o b) (ht : TreeOk t) {k h c : Int} (hk : k ∉ b.map (·.1)) (hh : h ∈ b.map (·.1)) (hs : Step t k h c) : Bh t o (b ++ [(k, some h)]) where
  hd := by
    have := (List.getElem?_eq_some_iff.mp B.hd).1
    rw [List.getElem?_append_left this]
    exact B.hd
  nd := by
    rw [List.map_append]
    exact List.nodup_append.mpr ⟨B.nd, by simp, fun a ha b hb e => by
      rw [List.map_singleton, List.mem_singleton] at hb
      rw [hb] at e
      rw [e] at ha
      exact hk ha⟩
  rg := fun x hx => by
    rw [List.map_append] at hx
    rcases List.mem_append.mp hx with hx | hx
    · exact B.rg x hx
    · rw [List.map_singleton, List.mem_singleton] at hx
      rw [hx]
      exact (step_rg ht hs).1
  bk := fun i k' q e => by
    by_cases hi : i < b.length
    · rw [List.getElem?_append_left hi] at e
      rcases B.bk i k' q e with z | ⟨h', j, q', c', e1, e2, e3, e4⟩
      · exact .inl z
      · refine .inr ⟨h', j, q', c', e1, e2, ?_, e4⟩
        rw [List.getElem?_append_left (by omega)]
        exact e3
    · have hlt := (List.getElem?_eq_some_iff.mp e).1
      rw [List.length_append, List.length_singleton] at hlt
      have hie : i = b.length := by omega
      rw [hie, List.getElem?_append_right (Nat.le_refl _), Nat.sub_self] at e
      injection e with e
      injection e with e1 e2
      obtain ⟨p, hp, hp2⟩ := List.mem_map.mp hh
      obtain ⟨j, hj⟩ := List.mem_iff_getElem?.mp hp
      have hjl := (List.getElem?_eq_some_iff.mp hj).1
      refine .inr ⟨h, j, p.2, c, e2.symm, by omega, ?_, by rw [← e1]; exact hs⟩
      rw [List.getElem?_append_left hjl, hj, ← hp2]
theorem popL_ok {a : Type} (xs : List a) (x : a) : popL (xs ++ [x]) = .ok (x, xs) := by
  unfold popL
  have : (xs ++ [x])[(xs ++ [x]).length - 1]? = some x := by
    rw [List.length_append, List.length_singleton, Nat.add_sub_cancel, List.getElem?_append_right (Nat.le_refl _), Nat.sub_self]
    rfl
  rw [this]
  show Except.ok (x, (xs ++ [x]).dropLast) = _
  rw [List.dropLast_concat]
theorem atI_last {a : Type} (xs : List a) (x : a) : L2.atI (xs ++ [x]) (-1) = some x := by
  unfold L2.atI ixN
  rw [if_neg (by omega), if_pos (by rw [List.length_append, List.length_singleton]; omega)]
  show (xs ++ [x])[((-1 : Int) + ((xs ++ [x]).length : Int)).toNat]? = some x
  rw [List.length_append, List.length_singleton]
  rw [show ((-1 : Int) + ((xs.length + 1 : Nat) : Int)).toNat = xs.length by omega]
  rw [List.getElem?_append_right (Nat.le_refl _), Nat.sub_self]
  rfl
inductive Path (t : Tr) : List Int → Int → Prop
  | one (x : Int) : Path t [x] 0
  | snoc {ps : List Int} {x y l c : Int} : Path t (ps ++ [x]) l → Step t x y c → Path t ((ps ++ [x]) ++ [y]) (l + c)
theorem nil_or_snoc {a : Type} : ∀ l : List a, l = [] ∨ ∃ i x, l = i ++ [x]
  | [] => .inl rfl
  | x :: xs => by
    rcases nil_or_snoc xs with e | ⟨i, y, e⟩
    · exact .inr ⟨[], x, by rw [e]; rfl⟩
    · exact .inr ⟨x :: i, y, by rw [e]; rfl⟩
theorem way_ok (t : Tr) (ht : TreeOk t) (hn : t.1.length ≤ 100000) (one other : Int) (a0 : 0 ≤ one) (a1 : one < (t.1.length : Int)) (b0 : 0 ≤ other) (b1 : other < (t.1.length : Int)) :
    ∃ ps l, m_way_between t one other = .ok (ps, l) ∧ Path t ps l ∧ ps.Nodup ∧ ps.length ≤ t.1.length ∧ ps[0]? = some one ∧ L2.atI ps (-1) = some other := by
  have hlen := ht.len
  obtain ⟨⟨pl, b⟩, e, hB, hcl⟩ := whL_runN (r := Unit) (b := fun (st76 : (List Int) × (List (Int × (Option Int)))) =>
    if st76.1 ≠ ([] : List Int) then (
    popL st76.1 >>= fun (y95, _) =>
    opt (atI (nearAll t.1.length t.2) y95) >>= fun y107 =>
    loopN (fun (y117 : Int) (st128 : (List (Int × (Option Int))) × (List Int)) =>
    if dHas st128.1 y117 = true then (
    .ok (st128.1, st128.2))
    else (
    putD st128.1 y117 (some y95) >>= fun z143 =>
    appL st128.2 y117 >>= fun _ =>
    .ok (z143, (st128.2 ++ [y117])))) y107 (st76.2, st76.1.dropLast) >>= fun st153 =>
    .ok (.go (st153.2, st153.1)))
    else (
    .ok (.stop (st76.1, st76.2))))
    (fun m st => (m + 2 * st.2.length = 2 * t.1.length + st.1.length ∧ m ≤ 2 * t.1.length) ∧ Bh t other st.2 ∧ (∀ x ∈ st.1, x ∈ st.2.map (·.1)) ∧ ∀ x ∈ st.2.map (·.1), x ∈ st.1 ∨ ∀ y c, Step t x y c → y ∈ st.2.map (·.1))
    (fun st => Bh t other st.2 ∧ ∀ x ∈ st.2.map (·.1), ∀ y c, Step t x y c → y ∈ st.2.map (·.1))
    (fun m ⟨pl, b⟩ ⟨⟨h1, hm0⟩, h2, h3, h4⟩ => by
      have h1 : m + 2 * b.length = 2 * t.1.length + pl.length := h1
      have h2 : Bh t other b := h2
      have h3 : ∀ x ∈ pl, x ∈ b.map (·.1) := h3
      have h4 : ∀ x ∈ b.map (·.1), x ∈ pl ∨ ∀ y c, Step t x y c → y ∈ b.map (·.1) := h4
      rcases nil_or_snoc pl with e | ⟨ini, here, e⟩
      · refine .inr ⟨(pl, b), ?_, h2, fun x hx => ?_⟩
        · show (if pl ≠ [] then _ else _) = _
          rw [if_neg (fun z => z e)]
        · rcases h4 x hx with z | z
          · rw [e] at z; cases z
          · exact z
      · subst e
        refine .inl ?_
        have hh := h3 here (by simp)
        have hr := h2.rg here hh
        have near_at := nearAll_at (n := t.1.length) (ties := t.2) (p := here) hr.1 (by omega)
        have hbl : b.length ≤ t.1.length := h2.len
        have hini : ini.length ≤ 2 * t.1.length := by
          have h1' := h1
          have hm1 : m ≤ 2 * t.1.length := hm0
          rw [List.length_append, List.length_singleton] at h1'
          omega
        obtain ⟨⟨b', pl'⟩, e1, i1, i2, i3, i4, i5, i6⟩ := loopN_run (f := fun (y117 : Int) (st128 : (List (Int × (Option Int))) × (List Int)) =>
          if dHas st128.1 y117 = true then (
          .ok (st128.1, st128.2))
          else (
          putD st128.1 y117 (some here) >>= fun z143 =>
          appL st128.2 y117 >>= fun _ =>
          (.ok (z143, (st128.2 ++ [y117])) : M _))) (all := nearOf t.2 here) (x := (b, ini))
          (fun pre st => Bh t other st.1 ∧ (∀ x ∈ b.map (·.1), x ∈ st.1.map (·.1)) ∧ (∀ y ∈ pre, y ∈ st.1.map (·.1)) ∧ st.2.length + b.length = ini.length + st.1.length ∧ (∀ x ∈ st.2, x ∈ st.1.map (·.1)) ∧ ((∀ x ∈ ini, x ∈ st.2) ∧ ∀ x ∈ st.1.map (·.1), x ∈ b.map (·.1) ∨ x ∈ st.2))
          ⟨h2, fun _ h => h, (fun _ h => nomatch h), rfl, fun x hx => h3 x (List.mem_append_left _ hx), fun _ h => h, fun _ h => .inl h⟩
          (fun pre y post ⟨b2, p2⟩ ea ⟨g1, g2, g3, g4, g5, g6, g7⟩ => by
            have g1 : Bh t other b2 := g1
            have g2 : ∀ x ∈ b.map (·.1), x ∈ b2.map (·.1) := g2
            have g3 : ∀ y ∈ pre, y ∈ b2.map (·.1) := g3
            have g4 : p2.length + b.length = ini.length + b2.length := g4
            have g5 : ∀ x ∈ p2, x ∈ b2.map (·.1) := g5
            have g6 : ∀ x ∈ ini, x ∈ p2 := g6
            have g7 : ∀ x ∈ b2.map (·.1), x ∈ b.map (·.1) ∨ x ∈ p2 := g7
            have hy : y ∈ nearOf t.2 here := by rw [ea]; simp
            obtain ⟨c, hs⟩ := (near_step ht).mp hy
            show ∃ x', (if dHas b2 y = true then _ else _) = _ ∧ _
            by_cases hm : dHas b2 y = true
            · refine ⟨(b2, p2), by rw [if_pos hm], g1, g2, fun z hz => ?_, g4, g5, g6, g7⟩
              rcases List.mem_append.mp hz with hz | hz
              · exact g3 z hz
              · rw [List.mem_singleton.mp hz]; exact dHas_iff.mp hm
            · have hk : y ∉ b2.map (·.1) := fun z => hm (dHas_iff.mpr z)
              have hb2 := g1.len
              have hs' : Step t y here c := by
                obtain ⟨z, hz, h, e⟩ := hs
                exact ⟨z, hz, by omega, e⟩
              have hnew := g1.add ht hk (g2 here hh) hs'
              have hb3 := hnew.len
              have eput : putD b2 y (some here) = .ok (b2 ++ [(y, some here)]) := by
                unfold putD
                rw [if_pos (by omega), dPut_new fun p hp e => hk (List.mem_map.mpr ⟨p, hp, e⟩)]
              have mem : ∀ x, x ∈ (b2 ++ [(y, some here)]).map (·.1) ↔ x ∈ b2.map (·.1) ∨ x = y := fun x => by
                rw [List.map_append, List.mem_append, List.map_singleton, List.mem_singleton]
              have hb2' : b2.length ≤ t.1.length := hb2
              have hpl : p2.length < 16777216 := by omega
              refine ⟨(b2 ++ [(y, some here)], p2 ++ [y]), ?_, hnew, fun x hx => (mem x).mpr (.inl (g2 x hx)), fun z hz => ?_, ?_, fun z hz => ?_, fun z hz => List.mem_append_left _ (g6 z hz), fun z hz => ?_⟩
              · rw [if_neg hm, bind_ok eput, bind_ok (appL_ok hpl)]
              · rcases List.mem_append.mp hz with hz | hz
                · exact (mem z).mpr (.inl (g3 z hz))
                · exact (mem z).mpr (.inr (List.mem_singleton.mp hz))
              · show (p2 ++ [y]).length + b.length = ini.length + (b2 ++ [(y, some here)]).length
                rw [List.length_append, List.length_append, List.length_singleton, List.length_singleton]
                omega
              · rcases List.mem_append.mp hz with hz | hz
                · exact (mem z).mpr (.inl (g5 z hz))
                · exact (mem z).mpr (.inr (List.mem_singleton.mp hz))
              · rcases (mem z).mp hz with hz | hz
                · rcases g7 z hz with q | q
                  · exact .inl q
                  · exact .inr (List.mem_append_left _ q)
                · exact .inr (List.mem_append_right _ (by rw [hz]; simp)))
        obtain ⟨i6, i7⟩ := i6
        have i1 : Bh t other b' := i1
        have i2 : ∀ x ∈ b.map (·.1), x ∈ b'.map (·.1) := i2
        have i3 : ∀ y ∈ nearOf t.2 here, y ∈ b'.map (·.1) := i3
        have i4 : pl'.length + b.length = ini.length + b'.length := i4
        have i5 : ∀ x ∈ pl', x ∈ b'.map (·.1) := i5
        have i6 : ∀ x ∈ ini, x ∈ pl' := i6
        have i7 : ∀ x ∈ b'.map (·.1), x ∈ b.map (·.1) ∨ x ∈ pl' := i7
        have hb' := i1.len
        rw [List.length_append, List.length_singleton] at h1
        have hdec : 2 * t.1.length + pl'.length - 2 * b'.length < m := by
          have h0 := (List.getElem?_eq_some_iff.mp h2.hd).1
          have : b.length ≤ b'.length := by
            have := nd_sub_len (m := b'.map (·.1)) h2.nd i2
            rw [List.length_map, List.length_map] at this
            exact this
          omega
        refine ⟨(pl', b'), 2 * t.1.length + pl'.length - 2 * b'.length, hdec, ?_, ⟨?_, by omega⟩, i1, i5, fun x hx => ?_⟩
        · show (if ini ++ [here] ≠ [] then _ else _) = _
          rw [if_pos (by simp), bind_ok (popL_ok ini here)]
          show (opt (atI (nearAll t.1.length t.2) here) >>= _) = _
          rw [opt_b near_at]
          show (loopN _ (nearOf t.2 here) (b, (ini ++ [here]).dropLast) >>= _) = _
          rw [List.dropLast_concat, bind_ok e1]
        · show 2 * t.1.length + pl'.length - 2 * b'.length + 2 * b'.length = 2 * t.1.length + pl'.length
          omega
        · rcases i7 x hx with q | q
          · rcases h4 x q with z | z
            · rcases List.mem_append.mp z with z | z
              · exact .inl (i6 x z)
              · rw [List.mem_singleton.mp z]
                exact .inr fun y c hs => i3 y ((near_step ht).mpr ⟨c, hs⟩)
            · exact .inr fun y c hs => i2 y (z y c hs)
          · exact .inl q)
    1000000 (2 * t.1.length - 1) ([other], [(other, none)]) ⟨⟨by
        show 2 * t.1.length - 1 + 2 * 1 = 2 * t.1.length + 1
        omega, by omega⟩, ⟨rfl, by simp, fun x hx => by
          have hx : x ∈ [other] := hx
          rw [List.mem_singleton.mp hx]; exact ⟨b0, b1⟩, fun i k q e => by
          cases i with
          | zero => exact .inl rfl
          | succ i => simp at e⟩, fun x hx => hx, fun x hx => .inl hx⟩ (by omega)
  have hB : Bh t other b := hB
  have hcl : ∀ x ∈ b.map (·.1), ∀ y c, Step t x y c → y ∈ b.map (·.1) := hcl
  have hoth : other ∈ b.map (·.1) := List.mem_map.mpr ⟨(other, none), List.mem_of_getElem? hB.hd, rfl⟩
  have hall := tree_all ht (fun x => x ∈ b.map (·.1)) (fun x hx => ⟨fun h => hcl _ h x.b x.c ⟨x, hx, .inl ⟨rfl, rfl⟩, rfl⟩, fun h => hcl _ h x.a x.c ⟨x, hx, .inr ⟨rfl, rfl⟩, rfl⟩⟩) other b0 b1 hoth
  have hbl := hB.len
  have keyi : ∀ {i j : Nat} {k : Int} {q q' : Option Int}, b[i]? = some (k, q) → b[j]? = some (k, q') → i = j := fun {i j k q q'} h1 h2 => by
    have z1 : (b.map (·.1))[i]? = some k := by rw [List.getElem?_map, h1]; rfl
    have z2 : (b.map (·.1))[j]? = some k := by rw [List.getElem?_map, h2]; rfl
    exact nd_ix hB.nd z1 z2
  obtain ⟨p0, hp0, hp1⟩ := List.mem_map.mp (hall one a0 a1)
  obtain ⟨i0, hi0⟩ := List.mem_iff_getElem?.mp hp0
  have hi0 : b[i0]? = some (one, p0.2) := by rw [hi0, ← hp1]
  have hi0l := (List.getElem?_eq_some_iff.mp hi0).1
  obtain ⟨⟨l, ps⟩, e2, q1, q2, q3, q4, q5⟩ := whL_runN (r := Unit) (b := fun (st192 : Int × (List Int)) =>
    opt (atI st192.2 (-(1 : Int))) >>= fun y198 =>
    if y198 ≠ other then (
    opt (atI st192.2 (-(1 : Int))) >>= fun y204 =>
    opt (atI st192.2 (-(1 : Int))) >>= fun y209 =>
    opt (dGet b y209) >>= fun y214 =>
    opt y214 >>= fun y219 =>
    opt (dGet (lenOf t.2) (y204, y219)) >>= fun y234 =>
    opt (atI st192.2 (-(1 : Int))) >>= fun y246 =>
    opt (dGet b y246) >>= fun y251 =>
    opt y251 >>= fun y256 =>
    appL st192.2 y256 >>= fun _ =>
    .ok (.go ((st192.1 + y234), (st192.2 ++ [y256]))))
    else (
    .ok (.stop (st192.1, st192.2))))
    (fun i st => ∃ ini c q, st.2 = ini ++ [c] ∧ Path t st.2 st.1 ∧ b[i]? = some (c, q) ∧ st.2[0]? = some one ∧ (∀ x ∈ ini, ∃ j q', b[j]? = some (x, q') ∧ i < j) ∧ st.2.Nodup)
    (fun st => Path t st.2 st.1 ∧ st.2.Nodup ∧ st.2.length ≤ t.1.length ∧ st.2[0]? = some one ∧ L2.atI st.2 (-1) = some other)
    (fun i ⟨l, fs⟩ ⟨ini, c, q, h1, h2, h3, h4, h5, h6⟩ => by
      have h1 : fs = ini ++ [c] := h1
      have h2 : Path t fs l := h2
      have h4 : fs[0]? = some one := h4
      have h6 : fs.Nodup := h6
      have hal : L2.atI fs (-1) = some c := by rw [h1]; exact atI_last ini c
      have hfl : fs.length ≤ t.1.length := by
        have := nd_sub_len (m := b.map (·.1)) h6 fun x hx => by
          rw [h1] at hx
          rcases List.mem_append.mp hx with hx | hx
          · obtain ⟨j, q', hj, _⟩ := h5 x hx
            exact List.mem_map.mpr ⟨_, List.mem_of_getElem? hj, rfl⟩
          · rw [List.mem_singleton.mp hx]
            exact List.mem_map.mpr ⟨_, List.mem_of_getElem? h3, rfl⟩
        rw [List.length_map] at this
        omega
      by_cases hc : c = other
      · refine .inr ⟨(l, fs), ?_, h2, h6, hfl, h4, ?_⟩
        · show (opt (atI fs (-(1 : Int))) >>= _) = _
          rw [opt_b hal, if_neg (fun z => z hc)]
        · show L2.atI fs (-1) = _
          rw [hal, hc]
      · refine .inl ?_
        rcases hB.bk i c q h3 with z | ⟨h, j, q', cc, g1, g2, g3, g4⟩
        · rw [z, hB.hd] at h3
          injection h3 with h3
          injection h3 with h3 _
          exact (hc h3.symm).elim
        · subst g1
          have hg : dGet b c = some (some h) := dGet_mem hB.nd (List.mem_of_getElem? h3)
          have hnf : h ∉ fs := fun hm => by
            rw [h1] at hm
            rcases List.mem_append.mp hm with hm | hm
            · obtain ⟨j', q2, hj', hlt⟩ := h5 h hm
              have := keyi hj' g3
              omega
            · rw [List.mem_singleton.mp hm] at g3
              have := keyi h3 g3
              omega
          refine ⟨(l + cc, fs ++ [h]), j, g2, ?_, fs, h, q', rfl, ?_, g3, ?_, fun x hx => ?_, ?_⟩
          · show (opt (atI fs (-(1 : Int))) >>= _) = _
            rw [opt_b hal, if_pos hc, opt_b hal, opt_b hal, opt_b hg, opt_b rfl, opt_b (step_len ht g4), opt_b hal, opt_b hg, opt_b rfl, bind_ok (appL_ok (by show fs.length < _; omega))]
          · show Path t (fs ++ [h]) (l + cc)
            rw [h1] at h2 ⊢
            exact Path.snoc h2 g4
          · show (fs ++ [h])[0]? = some one
            have := (List.getElem?_eq_some_iff.mp h4).1
            rw [List.getElem?_append_left this]
            exact h4
          · have hx : x ∈ fs := hx
            rw [h1] at hx
            rcases List.mem_append.mp hx with hx | hx
            · obtain ⟨j', q2, hj', hlt⟩ := h5 x hx
              exact ⟨j', q2, hj', by omega⟩
            · rw [List.mem_singleton.mp hx]
              exact ⟨i, _, h3, g2⟩
          · exact List.nodup_append.mpr ⟨h6, by simp, fun a ha b' hb' e => by rw [List.mem_singleton.mp hb'] at e; exact hnf (e ▸ ha)⟩)
    1000000 i0 (0, [one]) ⟨[], one, p0.2, rfl, Path.one one, hi0, rfl, (fun _ h => nomatch h), by show [one].Nodup; simp⟩ (by omega)
  refine ⟨ps, l, ?_, q1, q2, q3, q4, q5⟩
  unfold m_way_between
  rw [bind_ok (show m_need_place t one = .ok () by unfold m_need_place; rw [if_pos a0, if_pos a1])]
  rw [bind_ok (show m_need_place t other = .ok () by unfold m_need_place; rw [if_pos b0, if_pos b1])]
  rw [bind_ok (tied_places_ok (t.1.length : Int) t.2 (by omega) (by omega) (by omega) ht.tie)]
  rw [show ((t.1.length : Int)).toNat = t.1.length from rfl]
  rw [bind_ok (lengths_ok t ht (by omega))]
  rw [show mergeD [(other, (none : Option Int))] = [(other, none)] from rfl]
  rw [bind_ok e]
  show (whL _ 1000000 (0, [one]) >>= _) = _
  rw [bind_ok e2]

theorem cutL_init {a : Type} (xs : List a) : cutL xs none (some (-(1 : Int))) = xs.dropLast := by
  unfold cutL
  show (xs.drop 0).take ((if (-(1 : Int)) < 0 then ((-(1 : Int)) + (xs.length : Int)).toNat else min (-(1 : Int)).toNat xs.length) - 0) = _
  rw [if_pos (by omega), List.drop_zero, List.dropLast_eq_take]
  congr 1
  omega
theorem cutL_tail {a : Type} (xs : List a) : cutL xs (some (1 : Int)) none = xs.tail := by
  unfold cutL
  show (xs.drop (if (1 : Int) < 0 then ((1 : Int) + (xs.length : Int)).toNat else min (1 : Int).toNat xs.length)).take (xs.length - (if (1 : Int) < 0 then ((1 : Int) + (xs.length : Int)).toNat else min (1 : Int).toNat xs.length)) = _
  rw [if_neg (by omega)]
  cases xs with
  | nil => rfl
  | cons x xs =>
    have : min (1 : Int).toNat (x :: xs).length = 1 := by rw [List.length_cons]; show min 1 _ = 1; omega
    rw [this]
    show (xs.drop 0).take ((x :: xs).length - 1) = xs
    rw [List.drop_zero, List.length_cons, Nat.add_sub_cancel, List.take_length]
def pairsL (xs : List Int) : List (Int × Int) := xs.dropLast.zip xs.tail
theorem pairsL_snoc (ps : List Int) (x y : Int) : pairsL ((ps ++ [x]) ++ [y]) = pairsL (ps ++ [x]) ++ [(x, y)] := by
  unfold pairsL
  rw [List.dropLast_concat]
  have ht : ((ps ++ [x]) ++ [y]).tail = (ps ++ [x]).tail ++ [y] := by
    cases ps with
    | nil => rfl
    | cons p ps => rfl
  rw [ht, List.dropLast_concat]
  have hl : ps.length = (ps ++ [x]).tail.length := by rw [List.length_tail, List.length_append, List.length_singleton, Nat.add_sub_cancel]
  rw [List.zip_append hl]
  rfl
def mm (p : Int × Int) : Int × Int := ((if p.2 < p.1 then p.2 else p.1), (if p.2 > p.1 then p.2 else p.1))
def dictOf (t : Tr) : List ((Int × Int) × Int) := t.2.map fun z => ((z.a, z.b), z.c)
theorem step_mm {t : Tr} (ht : TreeOk t) {x y c : Int} (h : Step t x y c) : dGet (dictOf t) (mm (x, y)) = some c := by
  obtain ⟨z, hz, hxy, e⟩ := h
  have := ht.tie z hz
  have nd : ((dictOf t).map (·.1)).Nodup := by
    unfold dictOf
    rw [List.map_map]
    exact tree_pairs ht
  refine dGet_mem nd (List.mem_map.mpr ⟨z, hz, ?_⟩)
  unfold mm
  rcases hxy with ⟨a, b⟩ | ⟨a, b⟩
  · show ((z.a, z.b), z.c) = ((if y < x then y else x, if y > x then y else x), c)
    rw [if_neg (by omega), if_pos (by omega), a, b, e]
  · show ((z.a, z.b), z.c) = ((if y < x then y else x, if y > x then y else x), c)
    rw [if_pos (by omega), if_neg (by omega), a, b, e]
theorem path_law {t : Tr} (ht : TreeOk t) {ps : List Int} {l : Int} (p : Path t ps l) : (∀ q ∈ (pairsL ps).map mm, ∃ c, dGet (dictOf t) q = some c) ∧ (((pairsL ps).map mm).filterMap (dGet (dictOf t))).sum = l := by
  induction p with
  | one x => exact ⟨(fun _ h => nomatch h), rfl⟩
  | @snoc ps x y l c hp hs ih =>
    obtain ⟨ih1, ih2⟩ := ih
    rw [pairsL_snoc, List.map_append, List.map_singleton]
    have hg := step_mm ht hs
    refine ⟨fun q hq => ?_, ?_⟩
    · rcases List.mem_append.mp hq with hq | hq
      · exact ih1 q hq
      · rw [List.mem_singleton.mp hq]; exact ⟨c, hg⟩
    · rw [List.filterMap_append, List.sum_append, ih2, List.filterMap_cons, hg]
      show l + (c + 0) = l + c
      omega
theorem right_ok (t : Tr) (ht : TreeOk t) (hn : t.1.length ≤ 60) (one other : Int) (a0 : 0 ≤ one) (a1 : one < (t.1.length : Int)) (b0 : 0 ≤ other) (b1 : other < (t.1.length : Int)) : m_law_right t one other = .ok true := by
  have hlen := ht.len
  obtain ⟨ps, l, e, hp, nd, pl, h0, hl⟩ := way_ok t ht (by omega) one other a0 a1 b0 b1
  obtain ⟨g1, g2⟩ := path_law ht hp
  unfold m_law_right
  rw [bind_ok (show m_law_copied t = .ok t from rfl)]
  obtain ⟨st, e1, hst⟩ := loopN_run (f := fun (y27 : (T3 Int Int Int)) (st38 : (List ((Int × Int) × Int))) =>
    putD st38 ((y27.a, y27.b).1, (y27.a, y27.b).2) y27.c >>= fun z72 =>
    (.ok z72 : M _)) (all := t.2) (x := []) (fun pre st => st = pre.map fun z => ((z.a, z.b), z.c)) rfl fun pre y post st ea es => by
      subst es
      have hpl : pre.length + 1 ≤ t.2.length := by
        rw [ea, List.length_append, List.length_cons]
        omega
      have ndp := tree_pairs ht
      refine ⟨_, ?_, rfl⟩
      show (putD (pre.map _) (y.a, y.b) y.c >>= _) = _
      rw [bind_ok (show putD (pre.map fun z : Tie => ((z.a, z.b), z.c)) (y.a, y.b) y.c = .ok ((pre.map fun z : Tie => ((z.a, z.b), z.c)) ++ [((y.a, y.b), y.c)]) by
        unfold putD
        rw [if_pos (by rw [List.length_map]; omega), dPut_new fun p hp e => by
          obtain ⟨x, hx, rfl⟩ := List.mem_map.mp hp
          rw [ea, List.map_append, List.map_cons, List.nodup_append] at ndp
          exact ndp.2.2 (x.a, x.b) (List.mem_map.mpr ⟨x, hx, rfl⟩) (y.a, y.b) List.mem_cons_self e])]
      rw [List.map_append]
      rfl
  rw [bind_ok e1, hst]
  rw [chk_b (show okR 2 by decide)]
  have hne : ps ≠ [] := fun z => by rw [z] at h0; cases h0
  have hzl : (pairsL ps).length ≤ ps.length := by
    unfold pairsL
    rw [List.length_zip, List.length_dropLast]
    omega
  rw [bind_ok (loopM_all fun q _ => ?_)]
  rw [bind_ok e]
  rw [if_neg (fun z => z rfl)]
  rw [if_neg (fun z => z rfl)]
  show (m_law_are_whole ps >>= _) = _
  rw [bind_ok (are_whole_ok ps (by omega)), if_pos rfl]
  rw [bind_ok (show m_law_whole l = .ok true from rfl), if_pos rfl]
  rw [if_neg hne]
  rw [opt_b (show L2.atI ps (0 : Int) = some one from atI_of (by omega) h0)]
  rw [if_neg (fun z => z rfl)]
  rw [opt_b hl, if_neg (fun z => z rfl)]
  rw [chk_b (show ps.Nodup ∧ ps.length < 64 from ⟨nd, by omega⟩)]
  rw [if_neg (by omega)]
  rw [cutL_init, cutL_tail]
  show (compS _ (pairsL ps) () >>= _) = _
  rw [bind_ok (compS_pure (fun y => some (mm y)) (by omega) fun y _ => rfl)]
  rw [List.filterMap_eq_map']
  have hml : ((pairsL ps).map fun y => mm y).length ≤ ps.length := by rw [List.length_map]; exact hzl
  show (compS _ ((pairsL ps).map fun y => mm y) () >>= _) = _
  rw [bind_ok (compS_pure (fun _ => none) (by omega) fun y hy => by
    obtain ⟨c, hc⟩ := g1 y hy
    have : dHas (dictOf t) y = true := by unfold dHas; rw [hc]; rfl
    show (if dHas (dictOf t) y = true then _ else _) = _
    rw [if_pos this])]
  rw [if_neg (by
    intro z
    refine z ?_
    show List.filterMap _ _ = []
    rw [List.filterMap_eq_nil_iff]
    exact fun _ _ => rfl)]
  show (compS _ ((pairsL ps).map fun y => mm y) () >>= _) = _
  rw [bind_ok (compS_pure (fun y => dGet (dictOf t) y) (by omega) fun y hy => by
    obtain ⟨c, hc⟩ := g1 y hy
    show (opt (dGet (dictOf t) y) >>= _) = _
    rw [opt_b hc, hc])]
  rw [if_neg (by
    intro z
    exact z g2)]
  rw [bind_ok (appL_ok (by show ps.length < _; omega))]
def inT (t : Tr) (p : Int × Int) : Prop := (0 ≤ p.1 ∧ p.1 < (t.1.length : Int)) ∧ (0 ≤ p.2 ∧ p.2 < (t.1.length : Int))
theorem law_true (ns : List Int) (h : ns.length ≤ 63) : m_law ns = .ok true := by
  unfold m_law
  have hc := cut10 ns 4
  have hc : (cutL ns none (some (4 : Int))).length ≤ ns.length := hc
  rw [chk_b (show ([((10 : Int) ^ Int.toNat (18 : Int))]).length + (cutL ns none (some (4 : Int))).length < 16777216 by simp only [List.length_singleton]; omega)]
  rw [bind_ok (loopM_all fun c _ => ?_)]
  obtain ⟨d, e1⟩ := deck_ok c
  rw [bind_ok e1]
  obtain ⟨k, d1, e2, k0, k4⟩ := take_small d 4 (by decide) (by decide)
  rw [bind_ok e2]
  obtain ⟨m, e3, hm⟩ := at4 k k0 k4
  show (opt (atI [(10 : Int), 10, 10, 40] k) >>= _) = _
  rw [opt_b e3]
  obtain ⟨far, d2, e4, f0, f1⟩ := far_ok d1
  show (m_law_far [d1] >>= _) = _
  rw [bind_ok e4]
  obtain ⟨t, d3, e5, ht, hl, _, _⟩ := tree_ok d2 m far (by omega) (by omega) f0 f1
  show (m_law_tree [d2] m far >>= _) = _
  rw [bind_ok e5]
  have hlen := ht.len
  have hpos := ht.pos
  obtain ⟨w, hw⟩ : ∃ w : Int, w = (if (10 : Int) < (t.1.length : Int) then (10 : Int) else (t.1.length : Int)) := ⟨_, rfl⟩
  have hw1 : 0 ≤ w ∧ w ≤ 10 ∧ w ≤ (t.1.length : Int) := by rw [hw]; split <;> omega
  show (chk (okR (if (10 : Int) < (t.1.length : Int) then (10 : Int) else (t.1.length : Int))) >>= _) = _
  rw [← hw, chk_b (show okR w from ⟨by omega, by omega⟩)]
  have hrl : (rangeL 0 w).length ≤ 10 := by rw [rangeL_length]; omega
  obtain ⟨st, e6, g1, g2⟩ := loopN_run (f := fun (y146 : Int) (st158 : (List (Int × Int))) =>
    chk (okR (if (10 : Int) < (t.1.length : Int) then (10 : Int) else (t.1.length : Int))) >>= fun _ =>
    compS (fun (y164 : Int) (st182 : Unit) =>
    .ok (some (y146, y164), ())) (rangeL 0 (if (10 : Int) < (t.1.length : Int) then (10 : Int) else (t.1.length : Int))) () >>= fun q204 =>
    chk (st158.length + q204.1.length < 16777216) >>= fun _ =>
    (.ok (st158 ++ q204.1) : M _)) (all := rangeL 0 w) (x := []) (fun pre st => (∀ p ∈ st, inT t p) ∧ st.length ≤ 10 * pre.length) ⟨(fun _ h => nomatch h), Nat.zero_le _⟩ fun pre y post st ea ⟨i1, i2⟩ => by
      have hy := rangeL_mem.mp (show y ∈ rangeL 0 w by rw [ea]; simp)
      have hpl : pre.length ≤ 10 := by
        have := congrArg List.length ea
        rw [List.length_append, List.length_cons] at this
        omega
      rw [← hw, chk_b (show okR w from ⟨by omega, by omega⟩)]
      rw [bind_ok (compS_pure (fun z => some (y, z)) (by omega) fun z _ => rfl)]
      rw [List.filterMap_eq_map']
      have hql : ((rangeL 0 w).map fun z => (y, z)).length ≤ 10 := by rw [List.length_map]; exact hrl
      rw [chk_b (by show st.length + ((rangeL 0 w).map fun z => (y, z)).length < 16777216; omega)]
      refine ⟨st ++ (rangeL 0 w).map fun z => (y, z), rfl, fun p hp => ?_, ?_⟩
      · rcases List.mem_append.mp hp with hp | hp
        · exact i1 p hp
        · obtain ⟨z, hz, rfl⟩ := List.mem_map.mp hp
          have hz := rangeL_mem.mp hz
          exact ⟨⟨hy.1, by show y < _; omega⟩, ⟨hz.1, by show z < _; omega⟩⟩
      · rw [List.length_append, List.length_append, List.length_singleton]
        omega
  have e6' := e6
  rw [← hw] at e6'
  show (loopN _ (rangeL 0 w) [] >>= _) = _
  rw [bind_ok e6']
  have fin : ∀ p : Int × Int, inT t p → m_law_right t p.1 p.2 = .ok true := fun p hp => right_ok t ht (by omega) p.1 p.2 hp.1.1 hp.1.2 hp.2.1 hp.2.2
  show (if (10 : Int) < (t.1.length : Int) then _ else _) = _
  by_cases hb : (10 : Int) < (t.1.length : Int)
  · rw [if_pos hb, chk_b (show okR 10 by decide)]
    obtain ⟨acc, dd, e7, _, ha⟩ := compS_run (f := fun (y240 : Int) (st258 : (List Int)) =>
      m_law_take st258 (t.1.length : Int) >>= fun r264 =>
      m_law_take r264.2 (t.1.length : Int) >>= fun r273 =>
      .ok (some (r264.1, r273.1), r273.2)) (all := rangeL 0 (10 : Int)) (by rw [rangeL_length]; decide)
      (fun pre acc st => (∃ d', st = [d']) ∧ ∀ p ∈ acc, inT t p) (x := [d3]) ⟨⟨d3, rfl⟩, fun _ h => nomatch h⟩ fun pre y post acc st _ ⟨⟨d', hd⟩, h3⟩ => by
        subst hd
        obtain ⟨x1, d4, q1, q2, q3⟩ := take_small d' (t.1.length : Int) (by omega) (by omega)
        obtain ⟨x2, d5, r1, r2, r3⟩ := take_small d4 (t.1.length : Int) (by omega) (by omega)
        refine ⟨some (x1, x2), [d5], ?_, ⟨d5, rfl⟩, fun p hp => ?_⟩
        · rw [bind_ok q1]
          show (m_law_take [d4] (t.1.length : Int) >>= _) = _
          rw [bind_ok r1]
        · rcases List.mem_append.mp hp with hp | hp
          · exact h3 p hp
          · rw [List.mem_singleton.mp hp]
            exact ⟨⟨q2, q3⟩, ⟨r2, r3⟩⟩
    show (compS _ (rangeL 0 10) [d3] >>= _) = _
    rw [bind_ok e7]
    show (loopM _ acc () >>= _) = _
    rw [bind_ok (loopM_all fun p hp => by
      show (m_law_right t p.1 p.2 >>= _) = _
      rw [bind_ok (fin p (ha p hp)), if_pos rfl])]
  · rw [if_neg hb]
    show (loopM _ st () >>= _) = _
    rw [bind_ok (loopM_all fun p hp => by
      show (m_law_right t p.1 p.2 >>= _) = _
      rw [bind_ok (fin p (g1 p hp)), if_pos rfl])]

theorem all_mk {P : Program} {w : World} {K : PySem.W.Frag} {h : Heap} {mg : Str → Option Value} {fa f1 f2 f3 f4 f5 f6 f7 f8 f9 f10 f11 f12 f13 f14 f15 f16 C_NoPlace : Addr} {od1 an1 od2 an2 od3 an3 od4 an4 od5 an5 od6 an6 od7 an7 od8 an8 od9 an9 od10 an10 od11 an11 od12 an12 od13 an13 od14 an14 od15 an15 od16 an16 : Option Addr} {sl1 sl2 sl3 sl4 sl5 sl6 sl7 sl8 sl9 sl10 sl11 sl12 sl13 sl14 sl15 sl16 : Array (Option Value)} {oc1 kV1 dc1 pm1 cd1 ct1 oc2 kV2 dc2 pm2 cd2 ct2 oc3 kV3 dc3 pm3 cd3 ct3 oc4 kV4 dc4 pm4 cd4 ct4 oc5 kV5 dc5 pm5 cd5 ct5 oc6 kV6 dc6 pm6 cd6 ct6 oc7 kV7 dc7 pm7 cd7 ct7 oc8 kV8 dc8 pm8 cd8 ct8 oc9 kV9 dc9 pm9 cd9 ct9 oc10 kV10 dc10 pm10 cd10 ct10 oc11 kV11 dc11 pm11 cd11 ct11 oc12 kV12 dc12 pm12 cd12 ct12 oc13 kV13 dc13 pm13 cd13 ct13 oc14 kV14 dc14 pm14 cd14 ct14 oc15 kV15 dc15 pm15 cd15 ct15 oc16 kV16 dc16 pm16 cd16 ct16 : Value} (X : K.In h) (G : h.Ns mainGlobals mg) (hfa : mg "law" = some (.ref fa))
    (a1 : PySem.W.nsIn K mainGlobals "tied_places" = some (some (.ref f1))) (l1 : K.lookup f1 = some ⟨oc1, od1, .func (PySem.W.fnOf "tied_places" "tied_places" (defArgs s_tied_places) (defBody s_tied_places) (defScope s_tied_places) .none kV1 dc1 pm1 an1 cd1 ct1), sl1⟩) (c1 : PySem.W.codeIn K cd1 "tied_places" = true) (k1 : PySem.W.keepIn K (.ref f1) = true)
    (a2 : PySem.W.nsIn K mainGlobals "need_place" = some (some (.ref f2))) (l2 : K.lookup f2 = some ⟨oc2, od2, .func (PySem.W.fnOf "need_place" "need_place" (defArgs s_need_place) (defBody s_need_place) (defScope s_need_place) .none kV2 dc2 pm2 an2 cd2 ct2), sl2⟩) (c2 : PySem.W.codeIn K cd2 "need_place" = true) (k2 : PySem.W.keepIn K (.ref f2) = true)
    (a3 : PySem.W.nsIn K mainGlobals "lengths_of" = some (some (.ref f3))) (l3 : K.lookup f3 = some ⟨oc3, od3, .func (PySem.W.fnOf "lengths_of" "lengths_of" (defArgs s_lengths_of) (defBody s_lengths_of) (defScope s_lengths_of) .none kV3 dc3 pm3 an3 cd3 ct3), sl3⟩) (c3 : PySem.W.codeIn K cd3 "lengths_of" = true) (k3 : PySem.W.keepIn K (.ref f3) = true)
    (a4 : PySem.W.nsIn K mainGlobals "way_between" = some (some (.ref f4))) (l4 : K.lookup f4 = some ⟨oc4, od4, .func (PySem.W.fnOf "way_between" "way_between" (defArgs s_way_between) (defBody s_way_between) (defScope s_way_between) .none kV4 dc4 pm4 an4 cd4 ct4), sl4⟩) (c4 : PySem.W.codeIn K cd4 "way_between" = true) (k4 : PySem.W.keepIn K (.ref f4) = true)
    (a5 : PySem.W.nsIn K mainGlobals "_law_stir" = some (some (.ref f5))) (l5 : K.lookup f5 = some ⟨oc5, od5, .func (PySem.W.fnOf "_law_stir" "_law_stir" (defArgs s_law_stir) (defBody s_law_stir) (defScope s_law_stir) .none kV5 dc5 pm5 an5 cd5 ct5), sl5⟩) (c5 : PySem.W.codeIn K cd5 "_law_stir" = true) (k5 : PySem.W.keepIn K (.ref f5) = true)
    (a6 : PySem.W.nsIn K mainGlobals "_law_deck" = some (some (.ref f6))) (l6 : K.lookup f6 = some ⟨oc6, od6, .func (PySem.W.fnOf "_law_deck" "_law_deck" (defArgs s_law_deck) (defBody s_law_deck) (defScope s_law_deck) .none kV6 dc6 pm6 an6 cd6 ct6), sl6⟩) (c6 : PySem.W.codeIn K cd6 "_law_deck" = true) (k6 : PySem.W.keepIn K (.ref f6) = true)
    (a7 : PySem.W.nsIn K mainGlobals "_law_take" = some (some (.ref f7))) (l7 : K.lookup f7 = some ⟨oc7, od7, .func (PySem.W.fnOf "_law_take" "_law_take" (defArgs s_law_take) (defBody s_law_take) (defScope s_law_take) .none kV7 dc7 pm7 an7 cd7 ct7), sl7⟩) (c7 : PySem.W.codeIn K cd7 "_law_take" = true) (k7 : PySem.W.keepIn K (.ref f7) = true)
    (a8 : PySem.W.nsIn K mainGlobals "_law_whole" = some (some (.ref f8))) (l8 : K.lookup f8 = some ⟨oc8, od8, .func (PySem.W.fnOf "_law_whole" "_law_whole" (defArgs s_law_whole) (defBody s_law_whole) (defScope s_law_whole) .none kV8 dc8 pm8 an8 cd8 ct8), sl8⟩) (c8 : PySem.W.codeIn K cd8 "_law_whole" = true) (k8 : PySem.W.keepIn K (.ref f8) = true)
    (a9 : PySem.W.nsIn K mainGlobals "_law_are_whole" = some (some (.ref f9))) (l9 : K.lookup f9 = some ⟨oc9, od9, .func (PySem.W.fnOf "_law_are_whole" "_law_are_whole" (defArgs s_law_are_whole) (defBody s_law_are_whole) (defScope s_law_are_whole) .none kV9 dc9 pm9 an9 cd9 ct9), sl9⟩) (c9 : PySem.W.codeIn K cd9 "_law_are_whole" = true) (k9 : PySem.W.keepIn K (.ref f9) = true)
    (a10 : PySem.W.nsIn K mainGlobals "_law_far" = some (some (.ref f10))) (l10 : K.lookup f10 = some ⟨oc10, od10, .func (PySem.W.fnOf "_law_far" "_law_far" (defArgs s_law_far) (defBody s_law_far) (defScope s_law_far) .none kV10 dc10 pm10 an10 cd10 ct10), sl10⟩) (c10 : PySem.W.codeIn K cd10 "_law_far" = true) (k10 : PySem.W.keepIn K (.ref f10) = true)
    (a11 : PySem.W.nsIn K mainGlobals "_law_number" = some (some (.ref f11))) (l11 : K.lookup f11 = some ⟨oc11, od11, .func (PySem.W.fnOf "_law_number" "_law_number" (defArgs s_law_number) (defBody s_law_number) (defScope s_law_number) .none kV11 dc11 pm11 an11 cd11 ct11), sl11⟩) (c11 : PySem.W.codeIn K cd11 "_law_number" = true) (k11 : PySem.W.keepIn K (.ref f11) = true)
    (a12 : PySem.W.nsIn K mainGlobals "_law_order" = some (some (.ref f12))) (l12 : K.lookup f12 = some ⟨oc12, od12, .func (PySem.W.fnOf "_law_order" "_law_order" (defArgs s_law_order) (defBody s_law_order) (defScope s_law_order) .none kV12 dc12 pm12 an12 cd12 ct12), sl12⟩) (c12 : PySem.W.codeIn K cd12 "_law_order" = true) (k12 : PySem.W.keepIn K (.ref f12) = true)
    (a13 : PySem.W.nsIn K mainGlobals "_law_tree" = some (some (.ref f13))) (l13 : K.lookup f13 = some ⟨oc13, od13, .func (PySem.W.fnOf "_law_tree" "_law_tree" (defArgs s_law_tree) (defBody s_law_tree) (defScope s_law_tree) .none kV13 dc13 pm13 an13 cd13 ct13), sl13⟩) (c13 : PySem.W.codeIn K cd13 "_law_tree" = true) (k13 : PySem.W.keepIn K (.ref f13) = true)
    (a14 : PySem.W.nsIn K mainGlobals "_law_copied" = some (some (.ref f14))) (l14 : K.lookup f14 = some ⟨oc14, od14, .func (PySem.W.fnOf "_law_copied" "_law_copied" (defArgs s_law_copied) (defBody s_law_copied) (defScope s_law_copied) .none kV14 dc14 pm14 an14 cd14 ct14), sl14⟩) (c14 : PySem.W.codeIn K cd14 "_law_copied" = true) (k14 : PySem.W.keepIn K (.ref f14) = true)
    (a15 : PySem.W.nsIn K mainGlobals "_law_right" = some (some (.ref f15))) (l15 : K.lookup f15 = some ⟨oc15, od15, .func (PySem.W.fnOf "_law_right" "_law_right" (defArgs s_law_right) (defBody s_law_right) (defScope s_law_right) .none kV15 dc15 pm15 an15 cd15 ct15), sl15⟩) (c15 : PySem.W.codeIn K cd15 "_law_right" = true) (k15 : PySem.W.keepIn K (.ref f15) = true)
    (a16 : PySem.W.nsIn K mainGlobals "law" = some (some (.ref f16))) (l16 : K.lookup f16 = some ⟨oc16, od16, .func (PySem.W.fnOf "law" "law" (defArgs s_law) (defBody s_law) (defScope s_law) .none kV16 dc16 pm16 an16 cd16 ct16), sl16⟩) (c16 : PySem.W.codeIn K cd16 "law" = true) (k16 : PySem.W.keepIn K (.ref f16) = true)
    (ga_NoPlace : PySem.W.nsIn K mainGlobals "NoPlace" = some (some (.ref C_NoPlace))) (gx_NoPlace : PySem.W.excIn K C_NoPlace [.type "ValueError", .type "Exception", .type "BaseException", .type "object"] "ValueError.__new__" = true) (gk_NoPlace : PySem.W.keepIn K (.ref C_NoPlace) = true) (gb_NoPlace : PySem.W.subIn K (.ref C_NoPlace) (.type "BaseException") = some true) (gt_NoPlace : PySem.W.typeIn K (.ref C_NoPlace) = some (.type "type"))
    (z_bool : PySem.W.nsIn K mainGlobals "bool" = some none)
    (z_int : PySem.W.nsIn K mainGlobals "int" = some none)
    (z_isinstance : PySem.W.nsIn K mainGlobals "isinstance" = some none)
    (z_len : PySem.W.nsIn K mainGlobals "len" = some none)
    (z_list : PySem.W.nsIn K mainGlobals "list" = some none)
    (z_max : PySem.W.nsIn K mainGlobals "max" = some none)
    (z_min : PySem.W.nsIn K mainGlobals "min" = some none)
    (z_range : PySem.W.nsIn K mainGlobals "range" = some none)
    (z_set : PySem.W.nsIn K mainGlobals "set" = some none)
    (z_sorted : PySem.W.nsIn K mainGlobals "sorted" = some none)
    (z_sum : PySem.W.nsIn K mainGlobals "sum" = some none)
    (z_tuple : PySem.W.nsIn K mainGlobals "tuple" = some none)
    (z_zip : PySem.W.nsIn K mainGlobals "zip" = some none) :
    ∃ fd : FuncData, (∀ (s : Shared) (v : Value), BindsTo s fd ⟨[v], []⟩ [("script", v)]) ∧ ∀ base : Heap, K.In base → base.Ns mainGlobals mg → FnOk P w K mg base (L2.CX P w) 4 fa fd ["script"] (sp_law K) := by
  have e := hfa.symm.trans (PySem.W.mg_of X G a16)
  cases e
  have nb : Nb mg := ⟨PySem.W.mg_none_of X G z_bool, PySem.W.mg_none_of X G z_int, PySem.W.mg_none_of X G z_isinstance, PySem.W.mg_none_of X G z_len, PySem.W.mg_none_of X G z_list, PySem.W.mg_none_of X G z_max, PySem.W.mg_none_of X G z_min, PySem.W.mg_none_of X G z_range, PySem.W.mg_none_of X G z_set, PySem.W.mg_none_of X G z_sorted, PySem.W.mg_none_of X G z_sum, PySem.W.mg_none_of X G z_tuple, PySem.W.mg_none_of X G z_zip⟩
  have E_NoPlace : ∃ C, Xc K mg "NoPlace" C := ⟨C_NoPlace, PySem.W.mg_of X G ga_NoPlace, gx_NoPlace, gk_NoPlace, gb_NoPlace, gt_NoPlace⟩
  have F1 := fun_mk (x := "tied_places") (st := s_tied_places) l1 c1 k1
  have D_tied_places : Df K mg "tied_places" "tied_places" s_tied_places ["many", "ties"] := ⟨_, _, F1, PySem.W.mg_of X G a1, F1.binds (ps := ["many", "ties"]) fun _ _ _ _ _ _ us hl => match us, hl with | [_, _], _ => rfl⟩
  have F2 := fun_mk (x := "need_place") (st := s_need_place) l2 c2 k2
  have D_need_place : Df K mg "need_place" "need_place" s_need_place ["tree", "place"] := ⟨_, _, F2, PySem.W.mg_of X G a2, F2.binds (ps := ["tree", "place"]) fun _ _ _ _ _ _ us hl => match us, hl with | [_, _], _ => rfl⟩
  have F3 := fun_mk (x := "lengths_of") (st := s_lengths_of) l3 c3 k3
  have D_lengths_of : Df K mg "lengths_of" "lengths_of" s_lengths_of ["tree"] := ⟨_, _, F3, PySem.W.mg_of X G a3, F3.binds (ps := ["tree"]) fun _ _ _ _ _ _ us hl => match us, hl with | [_], _ => rfl⟩
  have F4 := fun_mk (x := "way_between") (st := s_way_between) l4 c4 k4
  have D_way_between : Df K mg "way_between" "way_between" s_way_between ["tree", "one", "other"] := ⟨_, _, F4, PySem.W.mg_of X G a4, F4.binds (ps := ["tree", "one", "other"]) fun _ _ _ _ _ _ us hl => match us, hl with | [_, _, _], _ => rfl⟩
  have F5 := fun_mk (x := "_law_stir") (st := s_law_stir) l5 c5 k5
  have D_law_stir : Df K mg "_law_stir" "_law_stir" s_law_stir ["cell", "k"] := ⟨_, _, F5, PySem.W.mg_of X G a5, F5.binds (ps := ["cell", "k"]) fun _ _ _ _ _ _ us hl => match us, hl with | [_, _], _ => rfl⟩
  have F6 := fun_mk (x := "_law_deck") (st := s_law_deck) l6 c6 k6
  have D_law_deck : Df K mg "_law_deck" "_law_deck" s_law_deck ["cell"] := ⟨_, _, F6, PySem.W.mg_of X G a6, F6.binds (ps := ["cell"]) fun _ _ _ _ _ _ us hl => match us, hl with | [_], _ => rfl⟩
  have F7 := fun_mk (x := "_law_take") (st := s_law_take) l7 c7 k7
  have D_law_take : Df K mg "_law_take" "_law_take" s_law_take ["deck", "many"] := ⟨_, _, F7, PySem.W.mg_of X G a7, F7.binds (ps := ["deck", "many"]) fun _ _ _ _ _ _ us hl => match us, hl with | [_, _], _ => rfl⟩
  have F8 := fun_mk (x := "_law_whole") (st := s_law_whole) l8 c8 k8
  have D_law_whole : Df K mg "_law_whole" "_law_whole" s_law_whole ["found"] := ⟨_, _, F8, PySem.W.mg_of X G a8, F8.binds (ps := ["found"]) fun _ _ _ _ _ _ us hl => match us, hl with | [_], _ => rfl⟩
  have F9 := fun_mk (x := "_law_are_whole") (st := s_law_are_whole) l9 c9 k9
  have D_law_are_whole : Df K mg "_law_are_whole" "_law_are_whole" s_law_are_whole ["found"] := ⟨_, _, F9, PySem.W.mg_of X G a9, F9.binds (ps := ["found"]) fun _ _ _ _ _ _ us hl => match us, hl with | [_], _ => rfl⟩
  have F10 := fun_mk (x := "_law_far") (st := s_law_far) l10 c10 k10
  have D_law_far : Df K mg "_law_far" "_law_far" s_law_far ["deck"] := ⟨_, _, F10, PySem.W.mg_of X G a10, F10.binds (ps := ["deck"]) fun _ _ _ _ _ _ us hl => match us, hl with | [_], _ => rfl⟩
  have F11 := fun_mk (x := "_law_number") (st := s_law_number) l11 c11 k11
  have D_law_number : Df K mg "_law_number" "_law_number" s_law_number ["deck", "far"] := ⟨_, _, F11, PySem.W.mg_of X G a11, F11.binds (ps := ["deck", "far"]) fun _ _ _ _ _ _ us hl => match us, hl with | [_, _], _ => rfl⟩
  have F12 := fun_mk (x := "_law_order") (st := s_law_order) l12 c12 k12
  have D_law_order : Df K mg "_law_order" "_law_order" s_law_order ["deck", "many"] := ⟨_, _, F12, PySem.W.mg_of X G a12, F12.binds (ps := ["deck", "many"]) fun _ _ _ _ _ _ us hl => match us, hl with | [_, _], _ => rfl⟩
  have F13 := fun_mk (x := "_law_tree") (st := s_law_tree) l13 c13 k13
  have D_law_tree : Df K mg "_law_tree" "_law_tree" s_law_tree ["deck", "most", "far"] := ⟨_, _, F13, PySem.W.mg_of X G a13, F13.binds (ps := ["deck", "most", "far"]) fun _ _ _ _ _ _ us hl => match us, hl with | [_, _, _], _ => rfl⟩
  have F14 := fun_mk (x := "_law_copied") (st := s_law_copied) l14 c14 k14
  have D_law_copied : Df K mg "_law_copied" "_law_copied" s_law_copied ["tree"] := ⟨_, _, F14, PySem.W.mg_of X G a14, F14.binds (ps := ["tree"]) fun _ _ _ _ _ _ us hl => match us, hl with | [_], _ => rfl⟩
  have F15 := fun_mk (x := "_law_right") (st := s_law_right) l15 c15 k15
  have D_law_right : Df K mg "_law_right" "_law_right" s_law_right ["tree", "one", "other"] := ⟨_, _, F15, PySem.W.mg_of X G a15, F15.binds (ps := ["tree", "one", "other"]) fun _ _ _ _ _ _ us hl => match us, hl with | [_, _, _], _ => rfl⟩
  have F16 := fun_mk (x := "law") (st := s_law) l16 c16 k16
  refine ⟨PySem.W.fnOf "law" "law" (defArgs s_law) (defBody s_law) (defScope s_law) .none kV16 dc16 pm16 an16 cd16 ct16, fun s v => .of_eq rfl, fun base _ _ => ?_⟩
  have C_tied_places := ok_tied_places (P := P) (w := w) (base := base) nb D_tied_places
  have CO_tied_places := ok_tied_places_own (P := P) (w := w) (base := base) nb D_tied_places
  have C_need_place : Ca P w K mg base "need_place" 1 ["tree", "place"] (sp_need_place mg) := ok_need_place nb E_NoPlace  D_need_place
  have C_lengths_of : Ca P w K mg base "lengths_of" 1 ["tree"] (sp_lengths_of mg) := ok_lengths_of nb  D_lengths_of
  have C_way_between : Ca P w K mg base "way_between" 2 ["tree", "one", "other"] (sp_way_between mg) := ok_way_between nb C_lengths_of C_need_place C_tied_places  D_way_between
  have C_law_stir : Ca P w K mg base "_law_stir" 1 ["cell", "k"] (sp_law_stir mg) := ok_law_stir nb  D_law_stir
  have C_law_deck : Ca P w K mg base "_law_deck" 2 ["cell"] (sp_law_deck mg) := ok_law_deck nb C_law_stir  D_law_deck
  have C_law_take : Ca P w K mg base "_law_take" 1 ["deck", "many"] (sp_law_take mg) := ok_law_take nb  D_law_take
  have C_law_whole : Ca P w K mg base "_law_whole" 1 ["found"] (sp_law_whole mg) := ok_law_whole nb  D_law_whole
  have C_law_are_whole : Ca P w K mg base "_law_are_whole" 2 ["found"] (sp_law_are_whole mg) := ok_law_are_whole nb C_law_whole  D_law_are_whole
  have C_law_far : Ca P w K mg base "_law_far" 2 ["deck"] (sp_law_far mg) := ok_law_far nb C_law_take  D_law_far
  have C_law_number : Ca P w K mg base "_law_number" 2 ["deck", "far"] (sp_law_number mg) := ok_law_number nb C_law_take  D_law_number
  have C_law_order : Ca P w K mg base "_law_order" 2 ["deck", "many"] (sp_law_order mg) := ok_law_order nb C_law_take  D_law_order
  have C_law_tree : Ca P w K mg base "_law_tree" 3 ["deck", "most", "far"] (sp_law_tree mg) := ok_law_tree nb C_law_number C_law_order C_law_take  D_law_tree
  have C_law_copied : Ca P w K mg base "_law_copied" 1 ["tree"] (sp_law_copied mg) := ok_law_copied nb  D_law_copied
  have C_law_right : Ca P w K mg base "_law_right" 3 ["tree", "one", "other"] (sp_law_right mg) := ok_law_right nb C_law_are_whole C_law_copied C_law_whole C_way_between  D_law_right
  exact ok_law nb C_law_deck C_law_far C_law_right C_law_take C_law_tree F16
theorem walk {l : PySem.W.OpenLaw} {q : Program} {loose : List Str} {XP : (Str → Option Value) → Heap → Prop} {YP : World → Heap → Prop} {d : DefRec} {K : Params → PySem.W.Frag} (hn : l.most = some 63) (hdf : d.params.defaults = [])
    (hY : ∀ (w : World) (h : Heap), YP w h → (K w.params).In h)
    (F : ∀ (w : World) (mg : Str → Option Value) (fa : Addr) (h : Heap), (K w.params).In h → h.Ns mainGlobals mg → mg d.name = some (.ref fa) →
      ∃ fd : FuncData, (∀ (s : Shared) (u : Value), BindsTo s fd ⟨[u], []⟩ [("script", u)]) ∧ ∀ base : Heap, (K w.params).In base → base.Ns mainGlobals mg → FnOk l.prog w (K w.params) mg base (L2.CX l.prog w) 4 fa fd ["script"] (sp_law (K w.params))) :
    PySem.W.WalkO q loose XP YP l.row.toRowW d [] (fun f vs => PySem.call f vs) :=
  L2.walk_of (n := 63) (k := 4) (x := "script") (CX := fun w => L2.CX l.prog w) (sp := fun w => sp_law (K w.params)) hn (by decide) hdf ⟨rfl, by decide, by decide⟩ hY F
    (fun _ H a ns hl _ hS => ⟨H, a, ns, rfl, ⟨Same.refl _, (fun _ h => nomatch h), (fun _ h => nomatch h), List.nodup_nil, (fun _ h => nomatch h)⟩, hS, by rw [law_true ns hl]; exact fun _ _ _ => rfl⟩)
    fun _ _ _ _ _ z => by
      obtain ⟨_, _, _, _, _, _, _, _, _, _, _, _, z⟩ := z
      exact z.elim
end G
open PySem PySem.W PyProof.Rows
set_option maxRecDepth 100000 in
set_option maxHeartbeats 0 in
theorem PySem.Challenge.cw_everyseat_k04_ways_holds : PySem.Challenge.rw_everyseat_k04_ways.Holds := by
  w_on; o_law; k_head; (case hw => w_witness2)
  k_fill
  refine G.walk (l := PySem.Challenge.rw_everyseat_k04_ways) rfl rfl (fun w h Y => PySem.W.kIn_of Y) ?F
  case F =>
    intro w mg fa h KX GG hmg
    refine' G.all_mk KX GG hmg ?a1 ?l1 ?c1 ?k1 ?a2 ?l2 ?c2 ?k2 ?a3 ?l3 ?c3 ?k3 ?a4 ?l4 ?c4 ?k4 ?a5 ?l5 ?c5 ?k5 ?a6 ?l6 ?c6 ?k6 ?a7 ?l7 ?c7 ?k7 ?a8 ?l8 ?c8 ?k8 ?a9 ?l9 ?c9 ?k9 ?a10 ?l10 ?c10 ?k10 ?a11 ?l11 ?c11 ?k11 ?a12 ?l12 ?c12 ?k12 ?a13 ?l13 ?c13 ?k13 ?a14 ?l14 ?c14 ?k14 ?a15 ?l15 ?c15 ?k15 ?a16 ?l16 ?c16 ?k16 ?ga_NoPlace ?gx_NoPlace ?gk_NoPlace ?gb_NoPlace ?gt_NoPlace ?z_bool ?z_int ?z_isinstance ?z_len ?z_list ?z_max ?z_min ?z_range ?z_set ?z_sorted ?z_sum ?z_tuple ?z_zip
    (case a1 => k_is)
    (case l1 => k_is)
    (case c1 => k_is)
    (case k1 => k_is)
    (case a2 => k_is)
    (case l2 => k_is)
    (case c2 => k_is)
    (case k2 => k_is)
    (case a3 => k_is)
    (case l3 => k_is)
    (case c3 => k_is)
    (case k3 => k_is)
    (case a4 => k_is)
    (case l4 => k_is)
    (case c4 => k_is)
    (case k4 => k_is)
    (case a5 => k_is)
    (case l5 => k_is)
    (case c5 => k_is)
    (case k5 => k_is)
    (case a6 => k_is)
    (case l6 => k_is)
    (case c6 => k_is)
    (case k6 => k_is)
    (case a7 => k_is)
    (case l7 => k_is)
    (case c7 => k_is)
    (case k7 => k_is)
    (case a8 => k_is)
    (case l8 => k_is)
    (case c8 => k_is)
    (case k8 => k_is)
    (case a9 => k_is)
    (case l9 => k_is)
    (case c9 => k_is)
    (case k9 => k_is)
    (case a10 => k_is)
    (case l10 => k_is)
    (case c10 => k_is)
    (case k10 => k_is)
    (case a11 => k_is)
    (case l11 => k_is)
    (case c11 => k_is)
    (case k11 => k_is)
    (case a12 => k_is)
    (case l12 => k_is)
    (case c12 => k_is)
    (case k12 => k_is)
    (case a13 => k_is)
    (case l13 => k_is)
    (case c13 => k_is)
    (case k13 => k_is)
    (case a14 => k_is)
    (case l14 => k_is)
    (case c14 => k_is)
    (case k14 => k_is)
    (case a15 => k_is)
    (case l15 => k_is)
    (case c15 => k_is)
    (case k15 => k_is)
    (case a16 => k_is)
    (case l16 => k_is)
    (case c16 => k_is)
    (case k16 => k_is)
    (case ga_NoPlace => k_is)
    (case gx_NoPlace => k_exc)
    (case gk_NoPlace => k_is)
    (case gb_NoPlace => k_is)
    (case gt_NoPlace => k_is)
    (case z_bool => k_is)
    (case z_int => k_is)
    (case z_isinstance => k_is)
    (case z_len => k_is)
    (case z_list => k_is)
    (case z_max => k_is)
    (case z_min => k_is)
    (case z_range => k_is)
    (case z_set => k_is)
    (case z_sorted => k_is)
    (case z_sum => k_is)
    (case z_tuple => k_is)
    (case z_zip => k_is)
#print axioms PySem.Challenge.cw_everyseat_k04_ways_holds
