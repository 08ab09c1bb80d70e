import PyProof.Rows.All
import Wide.All
import OpenK.AllK
import Wide.FinOn
import HandS.ForMost
import HandS.ForExc
import HandS.Wide
import HandS.Flow
import HandS.Evl
import HandS.Conv
import HandS.IsInst
import KE.SortData
import KE.DatumMoreOrd
import KE.DatumIndex
import HandS.Walk
import HandS.TupSets
import HandS.TryOnly
import PySem.Challenge.RW_everyseat_k10_sums_at
set_option Elab.async false
set_option linter.all false
set_option maxRecDepth 100000
set_option maxHeartbeats 4000000
/-! My own layer over HandS: mirrors in an error monad, represented data, owned cells. -/
namespace PG
open PySem L2

/-! ### the mirrors' monad -/
inductive Er where
  | bad
  | exc (n : String)
  deriving DecidableEq
abbrev M := Except Er
def wp {a : Type} (m : M a) (Q : a → Prop) (E : String → Prop) : Prop :=
  match m with
  | .ok x => Q x
  | .error .bad => False
  | .error (.exc n) => E n
section
variable {a b : Type} {Q : a → Prop} {R : b → Prop} {E E' : String → Prop}
theorem wp_ok {x : a} : wp (Except.ok x : M a) Q E = Q x := rfl
theorem wp_pure {x : a} : wp (pure x : M a) Q E = Q x := rfl
theorem wp_bind {m : M b} {k : b → M a} : wp (m >>= k) Q E ↔ wp m (fun x => wp (k x) Q E) E := by
  cases m with
  | ok x => exact Iff.rfl
  | error e => cases e <;> exact Iff.rfl
theorem wp_call {m : M b} {k : b → M a} {E1 : String → Prop} (h : wp (m >>= k) Q E) (hr : ∀ r, m = .ok r → wp (k r) Q E → R r) (he : ∀ n, E n → E1 n) : wp m R E1 := by
  cases m with
  | ok x => exact hr x rfl h
  | error e =>
    cases e with
    | bad => exact h
    | exc n => exact he n h
/-- the last call of a def -/
theorem wp_tail {m : M a} {E1 : String → Prop} {R : a → Prop} (h : wp m Q E) (hr : ∀ r, m = .ok r → Q r → R r) (he : ∀ n, E n → E1 n) : wp m R E1 := by
  cases m with
  | ok x => exact hr x rfl h
  | error e =>
    cases e with
    | bad => exact h
    | exc n => exact he n h
def bad : M a := .error .bad
def raise (n : String) : M a := .error (.exc n)
theorem wp_bad {P : Prop} (h : wp (bad : M a) Q E) : P := h.elim
/-- a guard -/
def chk (c : Prop) [Decidable c] : M Unit := if c then .ok () else bad
theorem wp_chk {c : Prop} [Decidable c] {k : Unit → M a} (h : wp (chk c >>= k) Q E) : c ∧ wp (k ()) Q E := by
  unfold chk at h
  by_cases hc : c
  · rw [if_pos hc] at h
    exact ⟨hc, h⟩
  · rw [if_neg hc] at h
    exact h.elim
/-- something that is there -/
def opt (o : Option b) : M b := match o with
  | some x => .ok x
  | none => bad
theorem wp_opt {o : Option b} {k : b → M a} (h : wp (opt o >>= k) Q E) : ∃ x, o = some x ∧ wp (k x) Q E := by
  cases o with
  | none => exact h.elim
  | some x => exact ⟨x, rfl, h⟩
/-- no exception leaves -/
def nox (m : M a) : M a := match m with
  | .ok x => .ok x
  | .error _ => bad
theorem wp_nox {m : M b} {k : b → M a} (h : wp (nox m >>= k) Q E) : ∃ x, m = .ok x ∧ wp (k x) Q E := by
  cases m with
  | ok x => exact ⟨x, rfl, h⟩
  | error e => exact h.elim
theorem wp_of_ok {m : M b} {x : b} (e : m = .ok x) (h : R x) : wp m R E := by
  rw [e]
  exact h
theorem wp_ite {c : Prop} [Decidable c] {x y : M a} (h : wp (if c then x else y) Q E) : (c → wp x Q E) ∧ (¬ c → wp y Q E) := by
  by_cases hc : c
  · rw [if_pos hc] at h
    exact ⟨fun _ => h, fun n => (n hc).elim⟩
  · rw [if_neg hc] at h
    exact ⟨fun p => (hc p).elim, fun _ => h⟩
end

/-! ### loops -/
/-- a turn's end: on to the next, or the def's return -/
inductive Fl (s r : Type) where
  | nx (x : s)
  | rt (x : r)
section
variable {i s r a : Type}
def loopM (b : i → s → M (Fl s r)) : List i → s → M (Fl s r)
  | [], x => .ok (.nx x)
  | y :: ys, x => b y x >>= fun
    | .nx x' => loopM b ys x'
    | .rt z => .ok (.rt z)
/-- a loop without return -/
def loopN (b : i → s → M s) : List i → s → M s
  | [], x => .ok x
  | y :: ys, x => b y x >>= fun x' => loopN b ys x'
def whileM (c : s → M Bool) (b : s → M (Fl s r)) : Nat → s → M (Fl s r)
  | 0, _ => bad
  | n + 1, x => c x >>= fun t => if t = true then b x >>= fun
      | .nx x' => whileM c b n x'
      | .rt z => .ok (.rt z)
    else .ok (.nx x)
def whileN (c : s → M Bool) (b : s → M s) : Nat → s → M s
  | 0, _ => bad
  | n + 1, x => c x >>= fun t => if t = true then b x >>= fun x' => whileN c b n x' else .ok x
/-- a comprehension: f gives an element, or none where the test fails -/
def compN (b : i → s → M (Option a × s)) : List i → s → M (List a × s)
  | [], x => .ok ([], x)
  | y :: ys, x => b y x >>= fun p => compN b ys p.2 >>= fun q => .ok (match p.1 with
    | some z => z :: q.1
    | none => q.1, q.2)
/-- .. that changes nothing -/
def compM (b : i → M (Option a)) : List i → M (List a)
  | [] => .ok []
  | y :: ys => b y >>= fun p => compM b ys >>= fun q => .ok (match p with
    | some z => z :: q
    | none => q)
end

/-! ### what a value stands for -/
open PySem.W (T3 T4 Datum DatumOrd)
mutual
inductive Rep (H : Hp) : V → PyData → Prop
  | non : Rep H .non .none
  | bl (b : Bool) : Rep H (.bl b) (.bool b)
  | int (i : Int) : Rep H (.int i) (.int i)
  | str (x : Str) : Rep H (.str x) (.str x)
  | lst {a : Addr} {xs : List V} {ds : List PyData} : H a = some (.lst xs) → RepA H xs ds → Rep H (.ref a) (.list ds)
  | tup {a : Addr} {xs : List V} {ds : List PyData} : H a = some (.tup xs) → RepA H xs ds → Rep H (.ref a) (.tuple ds)
inductive RepA (H : Hp) : List V → List PyData → Prop
  | nil : RepA H [] []
  | cons {v : V} {vs : List V} {d : PyData} {ds : List PyData} : Rep H v d → RepA H vs ds → RepA H (v :: vs) (d :: ds)
end
mutual
theorem Rep.mono {H H' : Hp} (s : Same H H') : ∀ (d : PyData) (v : V), Rep H v d → Rep H' v d
  | .none, _, h => by cases h; exact .non
  | .bool _, _, h => by cases h; exact .bl _
  | .int _, _, h => by cases h; exact .int _
  | .str _, _, h => by cases h; exact .str _
  | .list ds, _, h => by
    cases h with
    | lst ha hs => exact .lst (s _ _ ha) (RepA.mono s ds _ hs)
  | .tuple ds, _, h => by
    cases h with
    | tup ha hs => exact .tup (s _ _ ha) (RepA.mono s ds _ hs)
  | .dict _, _, h => by cases h
theorem RepA.mono {H H' : Hp} (s : Same H H') : ∀ (ds : List PyData) (vs : List V), RepA H vs ds → RepA H' vs ds
  | [], _, h => by cases h; exact .nil
  | d :: ds, _, h => by
    cases h with
    | cons h1 h2 => exact .cons (Rep.mono s d _ h1) (RepA.mono s ds _ h2)
end
mutual
theorem Rep.dp {K : PySem.W.Frag} {H : Hp} : ∀ (d : PyData) (v : V), Rep H v d → Dp K H v d
  | .none, _, h => by cases h; exact .non
  | .bool _, _, h => by cases h; exact .bl _
  | .int _, _, h => by cases h; exact .int _
  | .str _, _, h => by cases h; exact .str _
  | .list ds, _, h => by
    cases h with
    | lst ha hs => exact .lst (SqL.of ha) (RepA.dp ds _ hs)
  | .tuple ds, _, h => by
    cases h with
    | tup ha hs => exact .tup (SqT.of ha) (RepA.dp ds _ hs)
  | .dict _, _, h => by cases h
theorem RepA.dp {K : PySem.W.Frag} {H : Hp} : ∀ (ds : List PyData) (vs : List V), RepA H vs ds → DpAll K H vs ds
  | [], _, h => by cases h; exact .nil
  | d :: ds, _, h => by
    cases h with
    | cons h1 h2 => exact .cons (Rep.dp d _ h1) (RepA.dp ds _ h2)
end

/-- a Lean type whose values are Python's data -/
class Py (a : Type) where
  toD : a → PyData
instance : Py Int := ⟨.int⟩
instance : Py Bool := ⟨.bool⟩
instance : Py Str := ⟨.str⟩
instance : Py Unit := ⟨fun _ => .none⟩
instance {a : Type} [Py a] : Py (List a) := ⟨fun xs => .list (xs.map Py.toD)⟩
instance {a b : Type} [Py a] [Py b] : Py (a × b) := ⟨fun p => .tuple [Py.toD p.1, Py.toD p.2]⟩
instance {a b c : Type} [Py a] [Py b] [Py c] : Py (T3 a b c) := ⟨fun p => .tuple [Py.toD p.a, Py.toD p.b, Py.toD p.c]⟩
instance {a b c d : Type} [Py a] [Py b] [Py c] [Py d] : Py (T4 a b c d) := ⟨fun p => .tuple [Py.toD p.a, Py.toD p.b, Py.toD p.c, Py.toD p.d]⟩
instance {a : Type} [Py a] : Py (Option a) := ⟨fun o => match o with
  | none => .none
  | some x => Py.toD x⟩
class IsD (a : Type) [Py a] [DecidableEq a] [Datum a] : Prop where
  eq : ∀ x : a, Py.toD x = Datum.toD x
instance : IsD Int := ⟨fun _ => rfl⟩
instance : IsD Bool := ⟨fun _ => rfl⟩
instance : IsD Str := ⟨fun _ => rfl⟩
instance : IsD Unit := ⟨fun _ => rfl⟩
section
variable {a b c d : Type} [Py a] [DecidableEq a] [Datum a] [IsD a] [Py b] [DecidableEq b] [Datum b] [IsD b] [Py c] [DecidableEq c] [Datum c] [IsD c] [Py d] [DecidableEq d] [Datum d] [IsD d]
theorem map_toD (xs : List a) : xs.map (Py.toD : a → PyData) = xs.map Datum.toD := List.map_congr_left fun x _ => IsD.eq x
instance : IsD (List a) := ⟨fun xs => congrArg PyData.list (map_toD xs)⟩
instance : IsD (a × b) := ⟨fun p => by show PyData.tuple [_, _] = PyData.tuple [_, _]; rw [IsD.eq, IsD.eq]⟩
instance : IsD (T3 a b c) := ⟨fun p => by show PyData.tuple [_, _, _] = PyData.tuple [_, _, _]; rw [IsD.eq, IsD.eq, IsD.eq]⟩
instance : IsD (T4 a b c d) := ⟨fun p => by show PyData.tuple [_, _, _, _] = PyData.tuple [_, _, _, _]; rw [IsD.eq, IsD.eq, IsD.eq, IsD.eq]⟩
instance [PySem.W.SomeDatum a] : IsD (Option a) := ⟨fun o => by
  cases o with
  | none => rfl
  | some x => exact IsD.eq x⟩
end

/-- v stands for x -/
def R {a : Type} [Py a] (H : Hp) (v : V) (x : a) : Prop := Rep H v (Py.toD x)
/-- item by item -/
def RL {a : Type} [Py a] (H : Hp) (vs : List V) (xs : List a) : Prop := RepA H vs (xs.map Py.toD)
section
variable {H H' : Hp} {v : V} {vs : List V} {p q : Addr}
theorem R.mono {a : Type} [Py a] {x : a} (h : R H v x) (s : Same H H') : R H' v x := Rep.mono s _ _ h
theorem RL.mono {a : Type} [Py a] {xs : List a} (h : RL H vs xs) (s : Same H H') : RL H' vs xs := RepA.mono s _ _ h
theorem R.int {i : Int} : R H (.int i) i := Rep.int i
theorem R.bl {b : Bool} : R H (.bl b) b := Rep.bl b
theorem R.str {x : Str} : R H (.str x) x := Rep.str x
theorem R.unit {u : Unit} : R H .non u := Rep.non
theorem R.non {a : Type} [Py a] : R H .non (none : Option a) := Rep.non
theorem R.jst {a : Type} [Py a] {x : a} (h : R H v x) : R H v (some x) := h
theorem R.int_ {i : Int} (h : R H v i) : v = .int i := by cases h; rfl
theorem R.bl_ {b : Bool} (h : R H v b) : v = .bl b := by cases h; rfl
theorem R.str_ {x : Str} (h : R H v x) : v = .str x := by cases h; rfl
theorem R.unit_ {u : Unit} (h : R H v u) : v = .non := by cases h; rfl
theorem R.non_ {a : Type} [Py a] (h : R H v (none : Option a)) : v = .non := by cases h; rfl
theorem R.jst_ {a : Type} [Py a] {x : a} (h : R H v (some x)) : R H v x := h
variable {a b c d : Type} [Py a] [Py b] [Py c] [Py d]
theorem R.lst {xs : List a} (ha : H p = some (.lst vs)) (h : RL H vs xs) : R H (.ref p) xs := Rep.lst ha h
theorem R.lst_ {xs : List a} (h : R H v xs) : ∃ p vs, v = .ref p ∧ H p = some (.lst vs) ∧ RL H vs xs := by
  have h' : Rep H v (.list (xs.map Py.toD)) := h
  cases h' with
  | lst ha hs => exact ⟨_, _, rfl, ha, hs⟩
theorem R.t2 {x : a × b} {v1 v2 : V} (ha : H p = some (.tup [v1, v2])) (h1 : R H v1 x.1) (h2 : R H v2 x.2) : R H (.ref p) x := Rep.tup ha (.cons h1 (.cons h2 .nil))
theorem R.t2_ {x : a × b} (h : R H v x) : ∃ p v1 v2, v = .ref p ∧ H p = some (.tup [v1, v2]) ∧ R H v1 x.1 ∧ R H v2 x.2 := by
  have h' : Rep H v (.tuple [_, _]) := h
  cases h' with
  | tup ha hs =>
    cases hs with
    | cons h1 hs =>
      cases hs with
      | cons h2 hs =>
        cases hs
        exact ⟨_, _, _, rfl, ha, h1, h2⟩
theorem R.t3 {x : T3 a b c} {v1 v2 v3 : V} (ha : H p = some (.tup [v1, v2, v3])) (h1 : R H v1 x.a) (h2 : R H v2 x.b) (h3 : R H v3 x.c) : R H (.ref p) x := Rep.tup ha (.cons h1 (.cons h2 (.cons h3 .nil)))
theorem R.t3_ {x : T3 a b c} (h : R H v x) : ∃ p v1 v2 v3, v = .ref p ∧ H p = some (.tup [v1, v2, v3]) ∧ R H v1 x.a ∧ R H v2 x.b ∧ R H v3 x.c := by
  have h' : Rep H v (.tuple [_, _, _]) := h
  cases h' with
  | tup ha hs =>
    cases hs with
    | cons h1 hs =>
      cases hs with
      | cons h2 hs =>
        cases hs with
        | cons h3 hs =>
          cases hs
          exact ⟨_, _, _, _, rfl, ha, h1, h2, h3⟩
theorem R.t4 {x : T4 a b c d} {v1 v2 v3 v4 : V} (ha : H p = some (.tup [v1, v2, v3, v4])) (h1 : R H v1 x.a) (h2 : R H v2 x.b) (h3 : R H v3 x.c) (h4 : R H v4 x.d) : R H (.ref p) x :=
  Rep.tup ha (.cons h1 (.cons h2 (.cons h3 (.cons h4 .nil))))
theorem R.t4_ {x : T4 a b c d} (h : R H v x) : ∃ p v1 v2 v3 v4, v = .ref p ∧ H p = some (.tup [v1, v2, v3, v4]) ∧ R H v1 x.a ∧ R H v2 x.b ∧ R H v3 x.c ∧ R H v4 x.d := by
  have h' : Rep H v (.tuple [_, _, _, _]) := h
  cases h' with
  | tup ha hs =>
    cases hs with
    | cons h1 hs =>
      cases hs with
      | cons h2 hs =>
        cases hs with
        | cons h3 hs =>
          cases hs with
          | cons h4 hs =>
            cases hs
            exact ⟨_, _, _, _, _, rfl, ha, h1, h2, h3, h4⟩
theorem RL.nil : RL H [] ([] : List a) := RepA.nil
theorem RL.cons {x : a} {xs : List a} (h : R H v x) (hs : RL H vs xs) : RL H (v :: vs) (x :: xs) := RepA.cons h hs
theorem RL.cons_ {x : a} {xs : List a} (h : RL H vs (x :: xs)) : ∃ w ws, vs = w :: ws ∧ R H w x ∧ RL H ws xs := by
  have h' : RepA H vs (Py.toD x :: xs.map Py.toD) := h
  cases h' with
  | cons h1 h2 => exact ⟨_, _, rfl, h1, h2⟩
theorem RL.nil_ (h : RL H vs ([] : List a)) : vs = [] := by
  have h' : RepA H vs [] := h
  cases h'
  rfl
theorem RL.len : ∀ {vs : List V} {xs : List a}, RL H vs xs → vs.length = xs.length
  | _, [], h => by rw [RL.nil_ h]; rfl
  | _, x :: xs, h => by
    obtain ⟨w, ws, rfl, _, h2⟩ := RL.cons_ h
    rw [List.length_cons, List.length_cons, RL.len h2]
theorem RL.app : ∀ {vs ws : List V} {xs ys : List a}, RL H vs xs → RL H ws ys → RL H (vs ++ ws) (xs ++ ys)
  | _, _, [], _, h, k => by rw [RL.nil_ h]; exact k
  | _, _, x :: xs, _, h, k => by
    obtain ⟨w, ws', rfl, h1, h2⟩ := RL.cons_ h
    exact RL.cons h1 (RL.app h2 k)
theorem RL.snoc {x : a} {xs : List a} (h : RL H vs xs) (k : R H v x) : RL H (vs ++ [v]) (xs ++ [x]) := RL.app h (RL.cons k RL.nil)
theorem RL.get : ∀ {vs : List V} {xs : List a}, RL H vs xs → ∀ {i : Nat} {x : a}, xs[i]? = some x → ∃ w, vs[i]? = some w ∧ R H w x
  | _, [], _, i, x, e => by simp at e
  | _, y :: ys, h, i, x, e => by
    obtain ⟨w, ws, rfl, h1, h2⟩ := RL.cons_ h
    cases i with
    | zero =>
      cases (Option.some.inj e : y = x)
      exact ⟨w, rfl, h1⟩
    | succ i => exact RL.get h2 (i := i) (by simpa using e)
theorem RL.got : ∀ {vs : List V} {xs : List a}, RL H vs xs → ∀ {i : Nat} {w : V}, vs[i]? = some w → ∃ x, xs[i]? = some x ∧ R H w x
  | _, [], h, i, w, e => by rw [RL.nil_ h] at e; simp at e
  | _, y :: ys, h, i, w, e => by
    obtain ⟨w', ws, rfl, h1, h2⟩ := RL.cons_ h
    cases i with
    | zero =>
      cases (Option.some.inj e : w' = w)
      exact ⟨y, rfl, h1⟩
    | succ i => exact RL.got h2 (i := i) (by simpa using e)
theorem RL.atI {xs : List a} (h : RL H vs xs) {i : Int} {x : a} (e : L2.atI xs i = some x) : ∃ w, L2.atI vs i = some w ∧ R H w x := by
  unfold L2.atI at e ⊢
  rw [h.len]
  cases q : ixN xs.length i with
  | none => rw [q] at e; cases e
  | some j =>
    rw [q] at e
    exact h.get e
theorem RL.take : ∀ {vs : List V} {xs : List a} (n : Nat), RL H vs xs → RL H (vs.take n) (xs.take n)
  | _, _, 0, _ => RL.nil
  | _, [], n + 1, h => by rw [RL.nil_ h]; exact RL.nil
  | _, x :: xs, n + 1, h => by
    obtain ⟨w, ws, rfl, h1, h2⟩ := RL.cons_ h
    exact RL.cons h1 (RL.take n h2)
theorem RL.drop : ∀ {vs : List V} {xs : List a} (n : Nat), RL H vs xs → RL H (vs.drop n) (xs.drop n)
  | _, _, 0, h => h
  | _, [], n + 1, h => by rw [RL.nil_ h]; exact RL.nil
  | _, x :: xs, n + 1, h => by
    obtain ⟨w, ws, rfl, h1, h2⟩ := RL.cons_ h
    exact RL.drop n h2
theorem RL.set : ∀ {vs : List V} {xs : List a} (n : Nat) {w : V} {y : a}, RL H vs xs → R H w y → RL H (vs.set n w) (xs.set n y)
  | _, [], n, _, _, h, _ => by rw [RL.nil_ h]; exact RL.nil
  | _, x :: xs, 0, _, _, h, k => by
    obtain ⟨w, ws, rfl, h1, h2⟩ := RL.cons_ h
    exact RL.cons k h2
  | _, x :: xs, n + 1, _, _, h, k => by
    obtain ⟨w, ws, rfl, h1, h2⟩ := RL.cons_ h
    exact RL.cons h1 (RL.set n h2 k)
theorem RL.erase : ∀ {vs : List V} {xs : List a} (n : Nat), RL H vs xs → RL H (vs.eraseIdx n) (xs.eraseIdx n)
  | _, [], n, h => by rw [RL.nil_ h]; exact RL.nil
  | _, x :: xs, 0, h => by
    obtain ⟨w, ws, rfl, h1, h2⟩ := RL.cons_ h
    exact h2
  | _, x :: xs, n + 1, h => by
    obtain ⟨w, ws, rfl, h1, h2⟩ := RL.cons_ h
    exact RL.cons h1 (RL.erase n h2)
theorem RL.dropLast : ∀ {vs : List V} {xs : List a}, RL H vs xs → RL H vs.dropLast xs.dropLast
  | _, [], h => by rw [RL.nil_ h]; exact RL.nil
  | _, x :: xs, h => by
    obtain ⟨w, ws, rfl, h1, h2⟩ := RL.cons_ h
    cases xs with
    | nil => rw [RL.nil_ h2]; exact RL.nil
    | cons y ys =>
      obtain ⟨w2, ws2, rfl, _, _⟩ := RL.cons_ h2
      exact RL.cons h1 (RL.dropLast h2)
theorem RL.rev : ∀ {vs : List V} {xs : List a}, RL H vs xs → RL H vs.reverse xs.reverse
  | _, [], h => by rw [RL.nil_ h]; exact RL.nil
  | _, x :: xs, h => by
    obtain ⟨w, ws, rfl, h1, h2⟩ := RL.cons_ h
    rw [List.reverse_cons, List.reverse_cons]
    exact RL.snoc (RL.rev h2) h1
theorem RL.ints : ∀ {vs : List V} {xs : List Int}, RL H vs xs → vs = xs.map V.int
  | _, [], h => RL.nil_ h
  | _, x :: xs, h => by
    obtain ⟨w, ws, rfl, h1, h2⟩ := RL.cons_ h
    rw [R.int_ h1, RL.ints h2]
    rfl
theorem RL.of_ints : ∀ {xs : List Int}, RL H (xs.map V.int) xs
  | [] => RL.nil
  | x :: xs => RL.cons R.int RL.of_ints
theorem RL.bls : ∀ {vs : List V} {xs : List Bool}, RL H vs xs → vs = xs.map V.bl
  | _, [], h => RL.nil_ h
  | _, x :: xs, h => by
    obtain ⟨w, ws, rfl, h1, h2⟩ := RL.cons_ h
    rw [R.bl_ h1, RL.bls h2]
    rfl
theorem RL.strs : ∀ {vs : List V} {xs : List Str}, RL H vs xs → vs = xs.map V.str
  | _, [], h => RL.nil_ h
  | _, x :: xs, h => by
    obtain ⟨w, ws, rfl, h1, h2⟩ := RL.cons_ h
    rw [R.str_ h1, RL.strs h2]
    rfl
theorem RL.of_strs : ∀ {xs : List Str}, RL H (xs.map V.str) xs
  | [] => RL.nil
  | x :: xs => RL.cons R.str RL.of_strs
theorem RL.cut {xs : List a} (h : RL H vs xs) (lo hi : Option Int) : RL H (cutV vs lo hi) ((xs.drop (HT.sIx xs.length 0 lo)).take (HT.sIx xs.length xs.length hi - HT.sIx xs.length 0 lo)) := by
  unfold cutV
  rw [h.len]
  exact (h.drop _).take _
end

/-! ### owned cells: F is what is read alone, cs are the cells that the code may change -/
/-- what is known of the heap behind a def, by the heap at its entry; the cells at as may have changed -/
structure Gr (as : List Addr) (F H F' H' : Hp) : Prop where
  f : Same F F'
  s : Same F' H'
  k : ∀ b o, b ∉ as → H b = some o → H' b = some o
  t : ∀ b, H b ≠ none → H' b ≠ none
  n : ∀ b, H b ≠ none → F' b = F b ∨ ∃ xs, H b = some (.tup xs)
  u : ∀ b xs, H' b = some (.tup xs) → H b = none ∨ H b = some (.tup xs)
/-- what may be a cell -/
def noTup : HO → Bool
  | .tup _ => false
  | _ => true
structure Kp (as : List Addr) (H H' : Hp) : Prop where
  k : ∀ b o, b ∉ as → H b = some o → H' b = some o
  t : ∀ b, H b ≠ none → H' b ≠ none
/-- the entry of a def -/
structure Ent where
  as : List Addr
  F : Hp
  H : Hp
structure Ow (Z : Ent) (F : Hp) (cs : List (Addr × HO)) (H : Hp) : Prop where
  g : Gr Z.as Z.F Z.H F H
  cf : ∀ c ∈ cs, F c.1 = none
  ch : ∀ c ∈ cs, H c.1 = some c.2
  nd : (cs.map (·.1)).Nodup
  ca : ∀ c ∈ cs, c.1 ∈ Z.as ∨ Z.H c.1 = none
  nt : ∀ c ∈ cs, noTup c.2 = true
/-- what a def asks of its cells -/
structure Pre (F : Hp) (cs : List (Addr × HO)) (H : Hp) : Prop where
  s : Same F H
  cf : ∀ c ∈ cs, F c.1 = none
  ch : ∀ c ∈ cs, H c.1 = some c.2
  nd : (cs.map (·.1)).Nodup
  nt : ∀ c ∈ cs, noTup c.2 = true
theorem Same.new {H : Hp} {p : Addr} {o : HO} (h : H p = none) : Same H (upd H p o) := fun b u e => by
  rw [upd_ne (ne_of_none e h)]
  exact e
theorem Same.upd2 {F H : Hp} {p : Addr} {o : HO} (s : Same F H) : Same (upd F p o) (upd H p o) := fun b u e => by
  by_cases hb : b = p
  · subst hb
    rw [upd_same] at e ⊢
    exact e
  · rw [upd_ne hb] at e ⊢
    exact s b u e
theorem Same.no {F H : Hp} {p : Addr} (s : Same F H) (h : H p = none) : F p = none := Same.free s h
section
variable {Z : Ent} {F F' H H' : Hp} {cs : List (Addr × HO)} {p a : Addr} {o o' : HO}
theorem Pre.start (P : Pre F cs H) : Ow ⟨cs.map (·.1), F, H⟩ F cs H where
  g := ⟨Same.refl _, P.s, fun _ _ _ e => e, fun _ e => e, fun _ _ => .inl rfl, fun _ _ e => .inr e⟩
  cf := P.cf
  ch := P.ch
  nd := P.nd
  ca := fun c hc => .inl (List.mem_map.mpr ⟨c, hc, rfl⟩)
  nt := P.nt
theorem Ow.s (O : Ow Z F cs H) : Same F H := O.g.s
theorem Ow.pre (O : Ow Z F cs H) : Pre F cs H := ⟨O.g.s, O.cf, O.ch, O.nd, O.nt⟩
theorem Ow.pre0 (O : Ow Z F cs H) : Pre F [] H := ⟨O.g.s, (fun _ h => nomatch h), (fun _ h => nomatch h), List.nodup_nil, fun _ h => nomatch h⟩
theorem Ow.pre1 (O : Ow Z F cs H) (i : Nat) (e : cs[i]? = some (a, o)) : Pre F [(a, o)] H := by
  have m := List.mem_of_getElem? e
  refine ⟨O.g.s, fun c hc => ?_, fun c hc => ?_, by simp, fun c hc => ?_⟩
  · rw [List.mem_singleton.mp hc]; exact O.cf _ m
  · rw [List.mem_singleton.mp hc]; exact O.ch _ m
  · rw [List.mem_singleton.mp hc]; exact O.nt _ m
theorem Ow.at (O : Ow Z F cs H) (i : Nat) (e : cs[i]? = some (a, o)) : H a = some o := O.ch _ (List.mem_of_getElem? e)
theorem Ow.no (O : Ow Z F cs H) (h : H p = none) : F p = none := Same.no O.s h
theorem Gr.new (g : Gr Z.as Z.F Z.H F H) (h : H p = none) : Gr Z.as Z.F Z.H F (upd H p o) where
  f := g.f
  s := g.s.trans (Same.new h)
  k := fun b u hb e => Same.new h b u (g.k b u hb e)
  t := fun b e z => by
    by_cases hb : b = p
    · subst hb; exact g.t _ e h
    · rw [upd_ne hb] at z; exact g.t b e z
  n := g.n
  u := fun b xs e => by
    by_cases hb : b = p
    · subst hb
      cases q : Z.H b with
      | none => exact .inl rfl
      | some u => exact absurd h (g.t b (by rw [q]; simp))
    · rw [upd_ne hb] at e; exact g.u b xs e
/-- a new cell -/
theorem Ow.new (O : Ow Z F cs H) (h : H p = none) (hn : noTup o = true := by rfl) : Ow Z F ((p, o) :: cs) (upd H p o) where
  g := O.g.new h
  cf := fun c hc => by
    rcases List.mem_cons.mp hc with rfl | hc
    · exact O.no h
    · exact O.cf c hc
  ch := fun c hc => by
    rcases List.mem_cons.mp hc with rfl | hc
    · exact upd_same
    · rw [upd_ne (ne_of_none (O.ch c hc) h)]; exact O.ch c hc
  nd := by
    rw [List.map_cons, List.nodup_cons]
    refine ⟨fun hm => ?_, O.nd⟩
    obtain ⟨c, hc, e⟩ := List.mem_map.mp hm
    have z := O.ch c hc
    rw [e] at z
    rw [z] at h
    cases h
  ca := fun c hc => by
    rcases List.mem_cons.mp hc with rfl | hc
    · refine .inr ?_
      cases q : Z.H p with
      | none => rfl
      | some u => exact absurd h (O.g.t p (by rw [q]; simp))
    · exact O.ca c hc
  nt := fun c hc => by
    rcases List.mem_cons.mp hc with rfl | hc
    · exact hn
    · exact O.nt c hc
/-- a new thing that is read alone -/
theorem Ow.put (O : Ow Z F cs H) (h : H p = none) : Ow Z (upd F p o) cs (upd H p o) where
  g := {
    f := O.g.f.trans (Same.new (O.no h))
    s := Same.upd2 O.g.s
    k := (O.g.new h).k
    t := (O.g.new h).t
    n := fun b e => by
      have hb : b ≠ p := fun z => by subst z; exact O.g.t _ e h
      rw [upd_ne hb]
      exact O.g.n b e
    u := (O.g.new h).u }
  cf := fun c hc => by rw [upd_ne (ne_of_none (O.ch c hc) h)]; exact O.cf c hc
  ch := fun c hc => by rw [upd_ne (ne_of_none (O.ch c hc) h)]; exact O.ch c hc
  nd := O.nd
  ca := O.ca
  nt := O.nt
theorem map_set_fst {i : Nat} (e : cs[i]? = some (a, o)) : (cs.set i (a, o')).map (·.1) = cs.map (·.1) := by
  rw [List.map_set]
  obtain ⟨h, e'⟩ := List.getElem?_eq_some_iff.mp e
  refine List.ext_getElem? fun j => ?_
  by_cases hj : i = j
  · subst hj
    rw [List.getElem?_set_self (by simpa using h), List.getElem?_map, e]
    rfl
  · rw [List.getElem?_set_ne hj]
theorem nd_other {i : Nat} (nd : (cs.map (·.1)).Nodup) (e : cs[i]? = some (a, o)) {c : Addr × HO} (hc : c ∈ cs.set i (a, o')) : c = (a, o') ∨ (c ∈ cs ∧ c.1 ≠ a) := by
  obtain ⟨j, hj⟩ := List.mem_iff_getElem?.mp hc
  by_cases hij : i = j
  · subst hij
    obtain ⟨h, _⟩ := List.getElem?_eq_some_iff.mp e
    rw [List.getElem?_set_self h] at hj
    exact .inl (Option.some.inj hj).symm
  · rw [List.getElem?_set_ne hij] at hj
    refine .inr ⟨List.mem_of_getElem? hj, fun z => hij ?_⟩
    have h1 : (cs.map (·.1))[i]? = some a := by rw [List.getElem?_map, e]; rfl
    have h2 : (cs.map (·.1))[j]? = some a := by rw [List.getElem?_map, hj, ← z]; rfl
    exact nd_ix nd h1 h2
/-- a cell is changed -/
theorem Ow.set (O : Ow Z F cs H) (i : Nat) (o' : HO) (e : cs[i]? = some (a, o)) (hn : noTup o' = true := by rfl) : Ow Z F (cs.set i (a, o')) (upd H a o') := by
  have m := List.mem_of_getElem? e
  have ha := O.ca _ m
  refine ⟨⟨O.g.f, fun b u q => ?_, fun b u hb q => ?_, fun b q z => ?_, O.g.n, fun b xs q => ?_⟩, fun c hc => ?_, fun c hc => ?_, ?_, fun c hc => ?_, fun c hc => ?_⟩
  · have hb : b ≠ a := fun z => by subst z; rw [O.cf _ m] at q; cases q
    rw [upd_ne hb]
    exact O.g.s b u q
  · have hba : b ≠ a := fun z => by
      subst z
      rcases ha with ha | ha
      · exact hb ha
      · have q' : Z.H b = some u := q
        have ha' : Z.H b = none := ha
        rw [ha'] at q'; cases q'
    rw [upd_ne hba]
    exact O.g.k b u hb q
  · by_cases hb : b = a
    · subst hb; rw [upd_same] at z; cases z
    · rw [upd_ne hb] at z; exact O.g.t b q z
  · by_cases hb : b = a
    · subst hb
      rw [upd_same] at q
      rw [Option.some.inj q] at hn
      cases hn
    · rw [upd_ne hb] at q; exact O.g.u b xs q
  · rcases nd_other O.nd e hc with rfl | ⟨h1, _⟩
    · exact O.cf (a, o) m
    · exact O.cf c h1
  · rcases nd_other O.nd e hc with rfl | ⟨h1, h2⟩
    · exact upd_same
    · rw [upd_ne h2]; exact O.ch c h1
  · rw [map_set_fst e]; exact O.nd
  · rcases nd_other O.nd e hc with rfl | ⟨h1, _⟩
    · exact ha
    · exact O.ca c h1
  · rcases nd_other O.nd e hc with rfl | ⟨h1, _⟩
    · exact hn
    · exact O.nt c h1
theorem mem_erase {i : Nat} {c : Addr × HO} (h : c ∈ cs.eraseIdx i) : c ∈ cs := List.mem_of_mem_eraseIdx h
theorem nd_erase {i : Nat} (h : (cs.map (·.1)).Nodup) : ((cs.eraseIdx i).map (·.1)).Nodup := by
  exact h.sublist ((List.eraseIdx_sublist cs i).map (fun x => x.1))
/-- a cell that nobody changes any more (it was not there at the entry) -/
theorem Ow.frz (O : Ow Z F cs H) (i : Nat) (e : cs[i]? = some (a, o)) (hz : Z.H a = none) : Ow Z (upd F a o) (cs.eraseIdx i) H := by
  have m := List.mem_of_getElem? e
  have h1 : ∀ c ∈ cs.eraseIdx i, c.1 ≠ a := fun c hc z => by
    have nd := O.nd
    obtain ⟨hi, e'⟩ := List.getElem?_eq_some_iff.mp e
    obtain ⟨j, hj⟩ := List.mem_iff_getElem?.mp hc
    rw [List.getElem?_eraseIdx] at hj
    have h1 : (cs.map (·.1))[i]? = some a := by rw [List.getElem?_map, e]; rfl
    by_cases hji : j < i
    · rw [if_pos hji] at hj
      have h2 : (cs.map (·.1))[j]? = some a := by rw [List.getElem?_map, hj, ← z]; rfl
      have := nd_ix nd h1 h2
      omega
    · rw [if_neg hji] at hj
      have h2 : (cs.map (·.1))[j + 1]? = some a := by rw [List.getElem?_map, hj, ← z]; rfl
      have := nd_ix nd h1 h2
      omega
  refine ⟨⟨O.g.f.trans (Same.new (O.cf _ m)), fun b u q => ?_, O.g.k, O.g.t, fun b q => ?_, O.g.u⟩, fun c hc => ?_, fun c hc => O.ch c (mem_erase hc), nd_erase O.nd, fun c hc => O.ca c (mem_erase hc), fun c hc => O.nt c (mem_erase hc)⟩
  · by_cases hb : b = a
    · subst hb; rw [upd_same] at q; rw [← q]; exact O.ch _ m
    · rw [upd_ne hb] at q; exact O.g.s b u q
  · have hb : b ≠ a := fun z => by subst z; exact q hz
    rw [upd_ne hb]
    exact O.g.n b q
  · rw [upd_ne (h1 c hc)]; exact O.cf c (mem_erase hc)
theorem Ow.drop (O : Ow Z F cs H) (i : Nat) : Ow Z F (cs.eraseIdx i) H := ⟨O.g, fun c hc => O.cf c (mem_erase hc), fun c hc => O.ch c (mem_erase hc), nd_erase O.nd, fun c hc => O.ca c (mem_erase hc), fun c hc => O.nt c (mem_erase hc)⟩
theorem Ow.frzS (O : Ow Z F cs H) (i : Nat) (e : cs[i]? = some (a, o)) : Same F (upd F a o) := Same.new (O.cf _ (List.mem_of_getElem? e))
theorem Ow.putS (O : Ow Z F cs H) (h : H p = none) : Same F (upd F p o) := Same.new (O.no h)
theorem Gr.then {as : List Addr} (g0 : Gr Z.as Z.F Z.H F H) (g : Gr as F H F' H') (ha : ∀ b ∈ as, b ∈ Z.as ∨ Z.H b = none) : Gr Z.as Z.F Z.H F' H' where
  f := g0.f.trans g.f
  s := g.s
  k := fun b u hb e => by
    refine g.k b u (fun z => ?_) (g0.k b u hb e)
    rcases ha b z with h | h
    · exact hb h
    · rw [h] at e; cases e
  t := fun b e => g.t b (g0.t b e)
  n := fun b e => by
    rcases g0.n b e with h0 | h0
    · rcases g.n b (g0.t b e) with h1 | ⟨xs, hx⟩
      · exact .inl (h1.trans h0)
      · rcases g0.u b xs hx with z | z
        · exact absurd z e
        · exact .inr ⟨xs, z⟩
    · exact .inr h0
  u := fun b xs e => by
    rcases g.u b xs e with z | z
    · refine .inl ?_
      cases q : Z.H b with
      | none => rfl
      | some u => exact absurd z (g0.t b (by rw [q]; simp))
    · exact g0.u b xs z
theorem Gr.none {as : List Addr} (g : Gr as F H F' H') {c : Addr × HO} (h : H c.1 = some c.2) (hn : noTup c.2 = true) (hf : F c.1 = Option.none) : F' c.1 = Option.none := by
  rcases g.n c.1 (by rw [h]; simp) with z | ⟨xs, z⟩
  · exact z.trans hf
  · rw [h] at z
    rw [Option.some.inj z] at hn
    cases hn
/-- behind a call that changes none of our cells -/
theorem Ow.call0 (O : Ow Z F cs H) (g : Gr [] F H F' H') : Ow Z F' cs H' where
  g := O.g.then g (fun _ h => nomatch h)
  cf := fun c hc => g.none (O.ch c hc) (O.nt c hc) (O.cf c hc)
  ch := fun c hc => g.k _ _ (fun h => nomatch h) (O.ch c hc)
  nd := O.nd
  ca := O.ca
  nt := O.nt
/-- .. one -/
theorem Ow.call1 (O : Ow Z F cs H) (g : Gr [a] F H F' H') (i : Nat) (e : cs[i]? = some (a, o)) (h' : H' a = some o') (hn : noTup o' = true := by rfl) : Ow Z F' (cs.set i (a, o')) H' := by
  have m := List.mem_of_getElem? e
  refine ⟨O.g.then g (fun b hb => by rw [List.mem_singleton.mp hb]; exact O.ca _ m), fun c hc => ?_, fun c hc => ?_, by rw [map_set_fst e]; exact O.nd, fun c hc => ?_, fun c hc => ?_⟩
  · rcases nd_other O.nd e hc with rfl | ⟨h1, _⟩
    · exact g.none (c := (a, o)) (O.ch (a, o) m) (O.nt (a, o) m) (O.cf (a, o) m)
    · exact g.none (O.ch c h1) (O.nt c h1) (O.cf c h1)
  · rcases nd_other O.nd e hc with rfl | ⟨h1, h2⟩
    · exact h'
    · exact g.k _ _ (fun z => h2 (List.mem_singleton.mp z)) (O.ch c h1)
  · rcases nd_other O.nd e hc with rfl | ⟨h1, _⟩
    · exact O.ca (a, o) m
    · exact O.ca c h1
  · rcases nd_other O.nd e hc with rfl | ⟨h1, _⟩
    · exact hn
    · exact O.nt c h1
/-- a cell that a call made -/
theorem Ow.add {H0 : Hp} {F0 : Hp} (O : Ow Z F cs H) (O0 : Ow Z F0 cs' H0) (hk : ∀ c ∈ cs, c.1 ∈ cs'.map (·.1)) (hn : H0 p = none) (hf : F p = none) (h : H p = some o) (ht : noTup o = true := by rfl) : Ow Z F ((p, o) :: cs) H where
  g := O.g
  cf := fun c hc => by
    rcases List.mem_cons.mp hc with rfl | hc
    · exact hf
    · exact O.cf c hc
  ch := fun c hc => by
    rcases List.mem_cons.mp hc with rfl | hc
    · exact h
    · exact O.ch c hc
  nd := by
    rw [List.map_cons, List.nodup_cons]
    refine ⟨fun hm => ?_, O.nd⟩
    obtain ⟨c, hc, e⟩ := List.mem_map.mp hm
    obtain ⟨c', hc', e'⟩ := List.mem_map.mp (hk c hc)
    have z := O0.ch c' hc'
    rw [e', e] at z
    rw [z] at hn
    cases hn
  ca := fun c hc => by
    rcases List.mem_cons.mp hc with rfl | hc
    · refine .inr ?_
      cases q : Z.H p with
      | none => rfl
      | some u => exact absurd hn (O0.g.t p (by rw [q]; simp))
    · exact O.ca c hc
  nt := fun c hc => by
    rcases List.mem_cons.mp hc with rfl | hc
    · exact ht
    · exact O.nt c hc
theorem Ow.kp (O : Ow Z F cs H) : Kp Z.as Z.H H := ⟨O.g.k, O.g.t⟩
theorem Kp.of {as : List Addr} {H0 H1 : Hp} (g : Gr as F H0 F' H1) : Kp as H0 H1 := ⟨g.k, g.t⟩
/-- an error of a call leaves this def -/
theorem Ow.kpCall {as : List Addr} {H1 : Hp} (O : Ow Z F cs H) (k : Kp as H H1) (ha : ∀ b ∈ as, ∃ o, (b, o) ∈ cs) : Kp Z.as Z.H H1 where
  k := fun b u hb e => by
    refine k.k b u (fun z => ?_) (O.g.k b u hb e)
    obtain ⟨o, hc⟩ := ha b z
    rcases O.ca _ hc with h | h
    · exact hb h
    · have h' : Z.H b = none := h
      rw [h'] at e; cases e
  t := fun b e => k.t b (O.g.t b e)
theorem Ow.kp0 {H1 : Hp} (O : Ow Z F cs H) (k : Kp [] H H1) : Kp Z.as Z.H H1 := O.kpCall k fun _ h => nomatch h
theorem Ow.kp1 {H1 : Hp} (O : Ow Z F cs H) (k : Kp [a] H H1) (i : Nat) (e : cs[i]? = some (a, o)) : Kp Z.as Z.H H1 := O.kpCall k fun b hb => by
  rw [List.mem_singleton.mp hb]
  exact ⟨o, List.mem_of_getElem? e⟩
end
end PG

set_option Elab.async false
set_option linter.all false
set_option maxRecDepth 100000
set_option maxHeartbeats 4000000
namespace PG
open PySem L2
open PySem.W (T3 T4 Datum DatumOrd Holds HoldAll EachIs)
/-! ### rules over typed data -/
section
variable {X : Cx} {pins : List (Addr × Obj)} {σ : St} {H : Hp} {s : Shared} {v : V} {u : Value} {vs : List V} {us : List Value}
theorem R.holds {a : Type} [Py a] [DecidableEq a] [Datum a] [IsD a] {x : a} (I : Inv X pins σ H s) (h : R H v x) (r : RelV v u) : Holds s.heap u x := by
  obtain ⟨as, q⟩ := Dp.reads I _ _ _ (Rep.dp _ _ h) r
  rw [IsD.eq] at q
  exact ⟨as, q⟩
theorem RL.holds {a : Type} [Py a] [DecidableEq a] [Datum a] [IsD a] {xs : List a} (I : Inv X pins σ H s) (h : RL H vs xs) (r : Vals vs us) : HoldAll s.heap us xs := by
  obtain ⟨as, q⟩ := Dp.readsAll I _ _ _ (RepA.dp _ _ h) r
  rw [map_toD] at q
  exact ⟨as, q⟩
end
section
variable {X : Cx} (a : Type) [Py a] [DecidableEq a] [Datum a] [IsD a]
def rEqT : R2 := fun x y H Q => ∃ p q : a, R H x p ∧ R H y q ∧ Q (.bl (decide (p = q))) H
def rNeT : R2 := fun x y H Q => ∃ p q : a, R H x p ∧ R H y q ∧ Q (.bl (decide (p ≠ q))) H
theorem op_eqT (hu : X.A.units + 64 < cLine) (hd : Datum.depth a ≤ 64 := by decide) : OpR X (compareOp .Eq) (rEqT a) := by
  intro pins s σ H x y v u Q I rx ry h
  obtain ⟨p, q, hp, hq, k⟩ := h
  exact PySem.W.eq_datum (hp.holds I rx) (hq.holds I ry) (by omega) ⟨.bl _, H, I, rfl, k⟩
theorem op_neT (hu : X.A.units + 64 < cLine) (hd : Datum.depth a ≤ 64 := by decide) : OpR X (compareOp .NotEq) (rNeT a) := by
  intro pins s σ H x y v u Q I rx ry h
  obtain ⟨p, q, hp, hq, k⟩ := h
  exact PySem.W.ne_datum (hp.holds I rx) (hq.holds I ry) (by omega) ⟨.bl _, H, I, rfl, k⟩
def rInT (neg : Bool) : R2 := fun x y H Q => ∃ (p : a) (l : Addr) (vs : List V) (ys : List a), R H x p ∧ y = .ref l ∧ (H l = some (.lst vs) ∨ H l = some (.tup vs)) ∧ RL H vs ys ∧ Q (.bl (if neg then decide (p ∉ ys) else decide (p ∈ ys))) H
end
section
variable {X : Cx} (a : Type) [Py a] [DecidableEq a] [Datum a] [IsD a]
theorem op_inT (hu : X.A.units + 64 < cLine) (hd : Datum.depth a ≤ 60 := by decide) : OpR X (compareOp .In) (rInT a false) := by
  intro pins s σ H x y v u Q I rx ry h
  obtain ⟨p, l, vs, ys, hp, rfl, hl, hy, k⟩ := h
  cases ry
  rcases hl with hl | hl
  · obtain ⟨its, rv, hL, _⟩ := I.list (SqL.of (K := X.K) hl)
    exact PySem.W.in_list_datum hL.isList (by simpa using hy.holds I rv) (hp.holds I rx) (by omega) ⟨.bl _, H, I, rfl, k⟩
  · obtain ⟨its, rv, hL, _⟩ := I.tuple (SqT.of (K := X.K) hl)
    exact PySem.W.in_tuple_datum (show s.heap.IsTuple l its.toArray from hL) (by simpa using hy.holds I rv) (hp.holds I rx) (by omega) ⟨.bl _, H, I, rfl, k⟩
theorem op_ninT (hu : X.A.units + 64 < cLine) (hd : Datum.depth a ≤ 60 := by decide) : OpR X (compareOp .NotIn) (rInT a true) := by
  intro pins s σ H x y v u Q I rx ry h
  obtain ⟨p, l, vs, ys, hp, rfl, hl, hy, k⟩ := h
  cases ry
  rcases hl with hl | hl
  · obtain ⟨its, rv, hL, _⟩ := I.list (SqL.of (K := X.K) hl)
    exact PySem.W.notIn_list_datum hL.isList (by simpa using hy.holds I rv) (hp.holds I rx) (by omega) ⟨.bl _, H, I, rfl, k⟩
  · obtain ⟨its, rv, hL, _⟩ := I.tuple (SqT.of (K := X.K) hl)
    exact PySem.W.notIn_tuple_datum (show s.heap.IsTuple l its.toArray from hL) (by simpa using hy.holds I rv) (hp.holds I rx) (by omega) ⟨.bl _, H, I, rfl, k⟩
end

/-! ### sorted -/
/-- how data may be sorted: all are tuples with an item, or none is a tuple or None -/
class SortB (a : Type) [DecidableEq a] [Datum a] : Prop where
  ok : (∀ x : a, ∃ d r, Datum.toD x = .tuple (d :: r)) ∨ ∀ x : a, Datum.toD x ≠ .none ∧ ∀ ds, Datum.toD x ≠ .tuple ds
instance : SortB Int := ⟨.inr fun x => ⟨(fun e => nomatch (show PyData.int x = .none from e)), fun ds e => nomatch (show PyData.int x = .tuple ds from e)⟩⟩
instance : SortB Str := ⟨.inr fun x => ⟨(fun e => nomatch (show PyData.str x = .none from e)), fun ds e => nomatch (show PyData.str x = .tuple ds from e)⟩⟩
section
variable {a b c : Type} [DecidableEq a] [Datum a] [DecidableEq b] [Datum b] [DecidableEq c] [Datum c]
instance : SortB (List a) := ⟨.inr fun x => ⟨(fun e => nomatch (show PyData.list _ = .none from e)), fun ds e => nomatch (show PyData.list _ = .tuple ds from e)⟩⟩
instance : SortB (a × b) := ⟨.inl fun x => ⟨_, _, rfl⟩⟩
instance : SortB (T3 a b c) := ⟨.inl fun x => ⟨_, _, rfl⟩⟩
end
/-- Python's order -/
def leT {a : Type} [DecidableEq a] [DatumOrd a] (x y : a) : Bool := !DatumOrd.lt y x
def sortT {a : Type} [DecidableEq a] [DatumOrd a] (xs : List a) : List a := xs.mergeSort leT
theorem dataLe_T {a β : Type} [DecidableEq a] [DatumOrd a] (f : β → a) : PySem.W.dataLe false (fun b => Datum.toD (f b)) = fun x y => leT (f x) (f y) := by
  funext x y
  rw [PySem.W.dataLe_eq]
  show (!PySem.W.dataLt (Datum.toD (f y)) (Datum.toD (f x))) = _
  rw [DatumOrd.lt_eq]
  rfl
section
variable {a : Type} [Py a] [DecidableEq a] [DatumOrd a] [IsD a] {H : Hp}
theorem each_pairs : ∀ {vs : List V} {xs : List a} {us : List Value}, RL H vs xs → Vals vs us → EachIs (fun (u : Value) (p : V × a) => RelV p.1 u ∧ R H p.1 p.2) us (vs.zip xs)
  | _, [], _, h, r => by
    rw [RL.nil_ h] at r ⊢
    cases r
    exact .nil
  | _, x :: xs, _, h, r => by
    obtain ⟨w, ws, rfl, h1, h2⟩ := RL.cons_ h
    cases r with
    | cons r1 r2 => exact .cons ⟨r1, h1⟩ (each_pairs h2 r2)
theorem pairs_vals : ∀ {ps : List (V × a)} {us : List Value}, EachIs (fun (u : Value) (p : V × a) => RelV p.1 u ∧ R H p.1 p.2) us ps → Vals (ps.map (·.1)) us ∧ RL H (ps.map (·.1)) (ps.map (·.2))
  | _, _, .nil => ⟨.nil, RL.nil⟩
  | _, _, .cons ⟨r1, h1⟩ t => ⟨.cons r1 (pairs_vals t).1, RL.cons h1 (pairs_vals t).2⟩
theorem each_imp {β γ : Type} {A B : β → γ → Prop} (f : ∀ x y, A x y → B x y) : ∀ {xs : List β} {ys : List γ}, EachIs A xs ys → EachIs B xs ys
  | _, _, .nil => .nil
  | _, _, .cons h t => .cons (f _ _ h) (each_imp f t)
theorem zip_snd : ∀ {vs : List V} {xs : List a}, vs.length = xs.length → (vs.zip xs).map (·.2) = xs
  | [], [], _ => rfl
  | v :: vs, x :: xs, h => by
    rw [List.zip_cons_cons, List.map_cons, zip_snd (by simpa using h)]
  | [], _ :: _, h => by simp at h
  | _ :: _, [], h => by simp at h
theorem sort_zip {vs : List V} {xs : List a} (h : vs.length = xs.length) : ((vs.zip xs).mergeSort fun p q => leT p.2 q.2).map (·.2) = sortT xs := by
  unfold sortT
  rw [List.map_mergeSort (s := leT) (fun _ _ _ _ => rfl), zip_snd h]
end
section
variable {a : Type} [Py a] [DecidableEq a] [DatumOrd a] [IsD a] {H : Hp}
def sortV (ws : List V) (xs : List a) : List V := ((ws.zip xs).mergeSort fun p q => leT p.2 q.2).map (·.1)
theorem RL.pairs : ∀ {ws : List V} {xs : List a}, RL H ws xs → ∀ p ∈ ws.zip xs, R H p.1 p.2
  | _, [], _, p, hp => by simp at hp
  | _, x :: xs, h, p, hp => by
    obtain ⟨w, ws, rfl, h1, h2⟩ := RL.cons_ h
    rw [List.zip_cons_cons] at hp
    rcases List.mem_cons.mp hp with rfl | hp
    · exact h1
    · exact RL.pairs h2 p hp
theorem RL.of_pairs : ∀ {ps : List (V × a)}, (∀ p ∈ ps, R H p.1 p.2) → RL H (ps.map (·.1)) (ps.map (·.2))
  | [], _ => RL.nil
  | p :: ps, h => RL.cons (h p List.mem_cons_self) (RL.of_pairs fun q hq => h q (List.mem_cons_of_mem _ hq))
theorem RL.sorted {ws : List V} {xs : List a} (h : RL H ws xs) : RL H (sortV ws xs) (sortT xs) := by
  have q : RL H (sortV ws xs) (((ws.zip xs).mergeSort fun p q => leT p.2 q.2).map (·.2)) := RL.of_pairs fun p hp => h.pairs p (List.mem_mergeSort.mp hp)
  rw [sort_zip h.len] at q
  exact q
end
section
variable {X : Cx} (a : Type) [Py a] [DecidableEq a] [DatumOrd a] [IsD a]
/-- sorted(xs) of a list: a new list -/
def rSortedT : List V → Hp → VK → Prop := fun vs H Q => ∃ (l : Addr) (ws : List V) (xs : List a), vs = [.ref l] ∧ H l = some (.lst ws) ∧ RL H ws xs ∧ ∀ (p : Addr), H p = none → Q (.ref p) (upd H p (.lst (sortV ws xs)))
theorem cr_sortedT [SortB a] (hu : X.A.units + 128 < cLine) (hd : Datum.depth a ≤ 100 := by decide) : CallR X (.builtin "sorted") (rSortedT a) := by
  intro pins s σ H vs us Q I r h
  obtain ⟨l, ws, xs, rfl, hl, hx, k⟩ := h
  obtain ⟨its, rv, hL, hz⟩ := I.list (SqL.of (K := X.K) hl)
  rw [Vals.ref1 r]
  have hlen : ws.length = xs.length := hx.len
  have hE := each_pairs hx rv
  refine PySem.W.sorted_data (bs := ws.zip xs) (enc := fun p => Datum.toD p.2) hL.isList hE (each_imp (fun u p hp => hp.2.holds I hp.1) hE) (PySem.W.AllAlike.of fun p q => DatumOrd.alike p.2 q.2) ?_ (by rw [List.length_zip, ← hlen, Nat.min_self]; exact hz) (fun p _ => ?_) fun out ho he => ?_
  · rcases SortB.ok (a := a) with q | q
    · exact PySem.W.Sortable.tuples fun p => q p.2
    · exact PySem.W.Sortable.others fun p => q p.2
  · have := Datum.depth_le p.2
    omega
  · rw [dataLe_T (fun p : V × a => p.2)] at he
    obtain ⟨q1, q2⟩ := pairs_vals he
    obtain ⟨ep, he'⟩ := PyProof.Rows.sortedAll_at s.heap its out.toArray
    refine ⟨.ref _, upd H (s.heap.objs.size + 1) (.lst _), I.laid (t' := s.toks) (fun _ _ => PyProof.Rows.sortedAll_old) (Nat.le_succ _) ⟨?_, out, ep, q1, he'⟩, rfl, k _ (I.hok.fresh (Nat.le_succ _))⟩
    rw [List.length_map, List.length_mergeSort, List.length_zip, ← hlen, Nat.min_self]
    exact hz
end
end PG

set_option Elab.async false
set_option linter.all false
set_option maxRecDepth 100000
set_option maxHeartbeats 4000000
namespace PG
open PySem PySem.Spec PyProof.Rows L2
open PySem.W (T3 T4 Datum DatumOrd Holds HoldAll EachIs)

instance (i j : Int) : Decidable (CMulW i j) := inferInstanceAs (Decidable (_ < _))
instance (i j : Int) : Decidable (CDivW i j) := inferInstanceAs (Decidable (_ ∧ _))
instance (i j : Int) : Decidable (CPow i j) := inferInstanceAs (Decidable (_ ∧ _ ∧ _))
theorem szl : sizeLine = 16777216 := sizeLine_eq
theorem lt_line {n : Nat} (h : n < 16777216) : n < sizeLine := by rw [szl]; exact h
theorem le_line {n : Nat} (h : n < 16777216) : n ≤ sizeLine := Nat.le_of_lt (lt_line h)
theorem len_line {vs : List V} (h : vs.length < 16777216 := by (show _ < 16777216); simp) : vs.length ≤ sizeLine := le_line h
theorem SqLF {K : PySem.W.Frag} {F H : Hp} {p : Addr} {vs : List V} (s : Same F H) (h : F p = some (.lst vs)) : SqL K H p vs := SqL.of (s _ _ h)
theorem SqTF {K : PySem.W.Frag} {F H : Hp} {p : Addr} {vs : List V} (s : Same F H) (h : F p = some (.tup vs)) : SqT K H p vs := SqT.of (s _ _ h)

/-! ### mirrors of what may go wrong -/
def setI {a : Type} (xs : List a) (i : Int) (y : a) : M (List a) := match ixN xs.length i with
  | some j => .ok (xs.set j y)
  | none => bad
def popI {a : Type} (xs : List a) (i : Int) : M (a × List a) := if xs.length < 16777216 then (match ixN xs.length i with
    | some j => (match xs[j]? with
      | some y => .ok (y, xs.eraseIdx j)
      | none => bad)
    | none => bad) else bad
def popL {a : Type} (xs : List a) : M (a × List a) := match xs[xs.length - 1]? with
  | some y => .ok (y, xs.dropLast)
  | none => bad
def appL {a : Type} (xs : List a) (y : a) : M (List a) := if xs.length < 16777216 then .ok (xs ++ [y]) else bad
def rangeL (lo hi : Int) : List Int := (List.range (hi - lo).toNat).map fun (i : Nat) => lo + (i : Int)
def okR (i : Int) : Prop := -1000000 ≤ i ∧ i ≤ 1000000
instance (i : Int) : Decidable (okR i) := inferInstanceAs (Decidable (_ ∧ _))
theorem okR.lo {i : Int} (h : okR i) : -(2 ^ 62) ≤ i := by obtain ⟨a, b⟩ := h; omega
theorem okR.hi {i : Int} (h : okR i) : i < 2 ^ 62 := by obtain ⟨a, b⟩ := h; omega
theorem rangeL_get {lo hi : Int} {i : Nat} (h : i < (hi - lo).toNat) : (rangeL lo hi).drop i = (lo + (i : Int)) :: (rangeL lo hi).drop (i + 1) := by
  unfold rangeL
  rw [List.drop_eq_getElem_cons (by simpa using h)]
  simp
theorem rangeL_end {lo hi : Int} : (rangeL lo hi).drop (hi - lo).toNat = [] := by
  rw [List.drop_eq_nil_iff]
  unfold rangeL
  simp
section
variable {a b : Type} {Q : a → Prop} {E : String → Prop} {H : Hp}
theorem wp_setI {xs : List b} {i : Int} {y : b} {k : List b → M a} (h : wp (setI xs i y >>= k) Q E) : ∃ j, ixN xs.length i = some j ∧ wp (k (xs.set j y)) Q E := by
  unfold setI at h
  cases e : ixN xs.length i with
  | none => rw [e] at h; exact h.elim
  | some j => rw [e] at h; exact ⟨j, rfl, h⟩
theorem wp_popI {xs : List b} {i : Int} {k : b × List b → M a} (h : wp (popI xs i >>= k) Q E) : ∃ j y, seqIndex? i xs.length = some j ∧ -(2 ^ 63) ≤ i ∧ i < 2 ^ 63 ∧ xs[j]? = some y ∧ wp (k (y, xs.eraseIdx j)) Q E := by
  unfold popI at h
  by_cases hl : xs.length < 16777216
  · rw [if_pos hl] at h
    cases e : ixN xs.length i with
    | none => rw [e] at h; exact h.elim
    | some j =>
      rw [e] at h
      have h : wp ((match xs[j]? with
        | some y => .ok (y, xs.eraseIdx j)
        | none => bad) >>= k) Q E := h
      cases e2 : xs[j]? with
      | none => rw [e2] at h; exact h.elim
      | some y =>
        rw [e2] at h
        obtain ⟨q1, q2, q3, q4⟩ := ixN_seq e
        exact ⟨j, y, q1, by omega, by omega, e2, h⟩
  · rw [if_neg hl] at h
    exact h.elim
theorem wp_popL {xs : List b} {k : b × List b → M a} (h : wp (popL xs >>= k) Q E) : ∃ y, xs[xs.length - 1]? = some y ∧ wp (k (y, xs.dropLast)) Q E := by
  unfold popL at h
  cases e : xs[xs.length - 1]? with
  | none => rw [e] at h; exact h.elim
  | some y => rw [e] at h; exact ⟨y, rfl, h⟩
theorem wp_appL {xs : List b} {y : b} {k : List b → M a} (h : wp (appL xs y >>= k) Q E) : xs.length < sizeLine ∧ wp (k (xs ++ [y])) Q E := by
  unfold appL at h
  by_cases hl : xs.length < 16777216
  · rw [if_pos hl] at h
    exact ⟨lt_line hl, h⟩
  · rw [if_neg hl] at h
    exact h.elim
end
/-! loops, by what is left to be done -/
section
variable {i s r a c : Type} {Q : a → Prop} {E : String → Prop}
theorem loopN_L {b : i → s → M s} {xs : List i} {x : s} {k : s → M a} (h : wp (loopN b xs x >>= k) Q E) :
    ∃ L : List i → s → Prop, L xs x ∧ (∀ y ys x, L (y :: ys) x → wp (b y x) (fun x' => L ys x') E) ∧ ∀ x, L [] x → wp (k x) Q E := by
  refine ⟨fun ys x => wp (loopN b ys x >>= k) Q E, h, fun y ys x hx => ?_, fun x hx => hx⟩
  have hx : wp (loopN b (y :: ys) x >>= k) Q E := hx
  rw [wp_bind] at hx
  have hx : wp (b y x >>= fun x' => loopN b ys x') (fun x => wp (k x) Q E) E := hx
  rw [wp_bind] at hx
  cases e : b y x with
  | ok z =>
    rw [e] at hx
    exact wp_bind.mpr hx
  | error e2 =>
    rw [e] at hx
    cases e2 <;> exact hx
theorem loopM_L {b : i → s → M (Fl s r)} {xs : List i} {x : s} {k : Fl s r → M a} (h : wp (loopM b xs x >>= k) Q E) :
    ∃ L : List i → s → Prop, L xs x ∧ (∀ y ys x, L (y :: ys) x → wp (b y x) (fun f => match f with
      | .nx x' => L ys x'
      | .rt z => wp (k (.rt z)) Q E) E) ∧ ∀ x, L [] x → wp (k (.nx x)) Q E := by
  refine ⟨fun ys x => wp (loopM b ys x >>= k) Q E, h, fun y ys x hx => ?_, fun x hx => hx⟩
  have hx : wp (loopM b (y :: ys) x >>= k) Q E := hx
  rw [wp_bind] at hx
  cases e : b y x with
  | ok z =>
    have hx : wp (b y x >>= fun f => match f with
      | .nx x' => loopM b ys x'
      | .rt z => .ok (.rt z)) (fun x => wp (k x) Q E) E := hx
    rw [e] at hx
    cases z with
    | nx z => exact wp_bind.mpr hx
    | rt z => exact hx
  | error e2 =>
    have hx : wp (b y x >>= fun f => match f with
      | .nx x' => loopM b ys x'
      | .rt z => .ok (.rt z)) (fun x => wp (k x) Q E) E := hx
    rw [e] at hx
    cases e2 <;> exact hx
theorem whileN_L {c : s → M Bool} {b : s → M s} {n : Nat} {x : s} {k : s → M a} (h : wp (whileN c b n x >>= k) Q E) :
    ∃ L : Nat → s → Prop, L n x ∧ ∀ m x, L m x → wp (c x) (fun t => if t = true then ∃ m', m' < m ∧ wp (b x) (fun x' => L m' x') E else wp (k x) Q E) E := by
  refine ⟨fun n x => wp (whileN c b n x >>= k) Q E, h, fun m x hx => ?_⟩
  cases m with
  | zero => exact hx.elim
  | succ m =>
    have hx : wp ((c x >>= fun t => if t = true then b x >>= fun x' => whileN c b m x' else .ok x) >>= k) Q E := hx
    rw [wp_bind, wp_bind] at hx
    cases e : c x with
    | error e2 => rw [e] at hx; cases e2 <;> exact hx
    | ok t =>
      rw [e] at hx
      cases t with
      | false => exact hx
      | true =>
        refine ⟨m, Nat.lt_succ_self m, ?_⟩
        have hx : wp (b x >>= fun x' => whileN c b m x') (fun x => wp (k x) Q E) E := hx
        rw [wp_bind] at hx
        cases e : b x with
        | error e2 => rw [e] at hx; cases e2 <;> exact hx
        | ok z =>
          rw [e] at hx
          exact wp_bind.mpr hx
theorem whileM_L {c : s → M Bool} {b : s → M (Fl s r)} {n : Nat} {x : s} {k : Fl s r → M a} (h : wp (whileM c b n x >>= k) Q E) :
    ∃ L : Nat → s → Prop, L n x ∧ ∀ m x, L m x → wp (c x) (fun t => if t = true then ∃ m', m' < m ∧ wp (b x) (fun f => match f with
      | .nx x' => L m' x'
      | .rt z => wp (k (.rt z)) Q E) E else wp (k (.nx x)) Q E) E := by
  refine ⟨fun n x => wp (whileM c b n x >>= k) Q E, h, fun m x hx => ?_⟩
  cases m with
  | zero => exact hx.elim
  | succ m =>
    have hx : wp ((c x >>= fun t => if t = true then b x >>= fun
      | .nx x' => whileM c b m x'
      | .rt z => .ok (.rt z)
    else .ok (.nx x)) >>= k) Q E := hx
    rw [wp_bind, wp_bind] at hx
    cases e : c x with
    | error e2 => rw [e] at hx; cases e2 <;> exact hx
    | ok t =>
      rw [e] at hx
      cases t with
      | false => exact hx
      | true =>
        refine ⟨m, Nat.lt_succ_self m, ?_⟩
        have hx : wp (b x >>= fun
          | .nx x' => whileM c b m x'
          | .rt z => .ok (.rt z)) (fun x => wp (k x) Q E) E := hx
        rw [wp_bind] at hx
        cases e : b x with
        | error e2 => rw [e] at hx; cases e2 <;> exact hx
        | ok z =>
          rw [e] at hx
          cases z with
          | nx z => exact wp_bind.mpr hx
          | rt z => exact hx
/-- a comprehension: what it has made so far, then the items left; no exception leaves it -/
def compX (b : i → s → M (Option c × s)) : List i → List c → s → M (List c × s)
  | [], acc, x => .ok (acc, x)
  | y :: ys, acc, x => nox (b y x) >>= fun p => compX b ys (match p.1 with
    | some z => acc ++ [z]
    | none => acc) p.2
/-- the list is short enough -/
def compS (b : i → s → M (Option c × s)) (xs : List i) (x : s) : M (List c × s) := chk (xs.length < 16777216) >>= fun _ => compX b xs [] x
theorem compX_L {b : i → s → M (Option c × s)} {k : List c × s → M a} : ∀ {xs : List i} {acc : List c} {x : s}, wp (compX b xs acc x >>= k) Q E →
    ∃ L : List i → List c → s → Prop, L xs acc x ∧ (∀ y ys acc x, L (y :: ys) acc x → wp (b y x) (fun p => L ys (match p.1 with
      | some z => acc ++ [z]
      | none => acc) p.2) (fun _ => False)) ∧ ∀ acc x, L [] acc x → wp (k (acc, x)) Q E := by
  intro xs acc x h
  refine ⟨fun ys acc x => wp (compX b ys acc x >>= k) Q E, h, fun y ys acc x hx => ?_, fun acc x hx => hx⟩
  have hx : wp ((nox (b y x) >>= fun p => compX b ys (match p.1 with
    | some z => acc ++ [z]
    | none => acc) p.2) >>= k) Q E := hx
  rw [wp_bind] at hx
  obtain ⟨p, e, hx⟩ := wp_nox hx
  rw [e]
  exact wp_bind.mpr hx
theorem compS_L {b : i → s → M (Option c × s)} {k : List c × s → M a} {xs : List i} {x : s} (h : wp (compS b xs x >>= k) Q E) : xs.length < 16777216 ∧
    ∃ L : List i → List c → s → Prop, L xs [] x ∧ (∀ y ys acc x, L (y :: ys) acc x → wp (b y x) (fun p => L ys (match p.1 with
      | some z => acc ++ [z]
      | none => acc) p.2) (fun _ => False)) ∧ ∀ acc x, L [] acc x → wp (k (acc, x)) Q E := by
  unfold compS at h
  rw [wp_bind] at h
  obtain ⟨h1, h2⟩ := wp_chk h
  exact ⟨h1, compX_L (wp_bind.mpr h2)⟩
end
theorem drop_at {a : Type} {xs : List a} {i : Nat} {x : a} (h : xs[i]? = some x) : xs.drop i = x :: xs.drop (i + 1) := by
  obtain ⟨h1, h2⟩ := List.getElem?_eq_some_iff.mp h
  rw [List.drop_eq_getElem_cons h1, h2]
theorem drop_end {a : Type} {xs : List a} {vs : List V} (h : vs.length = xs.length) : xs.drop vs.length = [] := by
  rw [h, List.drop_length]

/-! ### a def as it stands -/
structure Df (K : PySem.W.Frag) (mg : Str → Option Value) (x qual : Str) (st : Stmt) (ps : List Str) : Prop where
  ex : ∃ f fd, Fun K x qual st f fd ∧ mg x = some (.ref f) ∧ Binds K fd ps []
structure Ca (P : Program) (w : World) (K : PySem.W.Frag) (mg : Str → Option Value) (base : Heap) (x : Str) (k : Nat) (ps : List Str) (sp : Sp) : Prop where
  ex : ∃ f fd, FnOk P w K mg base (L2.CX P w) k f fd ps sp ∧ mg x = some (.ref f) ∧ PySem.W.keepIn K (.ref f) = true ∧ Binds K fd ps []
/-- an exception class of the program -/
structure Xc (K : PySem.W.Frag) (mg : Str → Option Value) (x : Str) (C : Addr) : Prop where
  g : mg x = some (.ref C)
  x : PySem.W.excIn K C [.type "ValueError", .type "Exception", .type "BaseException", .type "object"] "ValueError.__new__" = true
  k : PySem.W.keepIn K (.ref C) = true
  b : PySem.W.subIn K (.ref C) (.type "BaseException") = some true
  t : PySem.W.typeIn K (.ref C) = some (.type "type")
section
variable {P : Program} {w : World} {K : PySem.W.Frag} {mg : Str → Option Value} {base : Heap}
theorem Ca.mk' {x qual : Str} {st : Stmt} {N ps : List Str} {k : Nat} {sp : Sp} (D : Df K mg x qual st ps) (S : FnScope N ps (defScope st)) (len : ∀ vs H Q E, sp vs H Q E → vs.length = ps.length)
    (hbody : ∀ (qual' : Str) (f : Addr) (cdv : Value) (A : Around) (outer : List Env) (s : Shared) (H : Hp) (vs : List V) (Q : VK) (E : XK), Room k (A.deeper (envOfC qual (defScope st) s.heap.objs.size f cdv)) → sp vs H Q E →
      ∃ t, PSs (cxOf (L2.CX P w) P w K mg base N qual (defScope st) f cdv A outer s H E) (defBody st) t ∧ t { nx := fun _ H' => Q .non H', rt := Q } (start N vs) H) : Ca P w K mg base x (k + 1) ps sp := by
  obtain ⟨f, fd, F, m, b⟩ := D.ex
  exact ⟨f, fd, F.okX S len fun cdv A outer s H vs Q E hr h => hbody qual f cdv A outer s H vs Q E hr h, m, F.kp, b⟩
end
section
variable {X : Cx}
/-- len of a list or tuple -/
def rLenT : List V → Hp → VK → Prop := fun vs H Q => ∃ (l : Addr) (ws : List V) (n : Nat), vs = [.ref l] ∧ (H l = some (.lst ws) ∨ H l = some (.tup ws)) ∧ ws.length = n ∧ Q (.int n) H
theorem call_lenT : CallR X (.builtin "len") rLenT := by
  intro pins s σ H vs us Q I r h
  obtain ⟨l, ws, n, e, hl, rfl, k⟩ := h
  refine call_len_seq pins s σ H vs us Q I r ⟨l, ws, e, ?_, k⟩
  rcases hl with hl | hl
  · exact .inl (SqL.of hl)
  · exact .inr (SqT.of hl)
end

section
variable {Z : Ent} {F F' H H' : Hp} {cs : List (Addr × HO)} {p a : Addr} {o o' : HO}
theorem Ow.putE (O : Ow Z F cs H) (h : H p = none) (o : HO) : ∃ F', Ow Z F' cs (upd H p o) ∧ Same F F' ∧ F' p = some o := ⟨_, O.put h, O.putS h, upd_same⟩
theorem Ow.was (O : Ow Z F cs H) (h : H p = none) : Z.H p = none := by
  cases q : Z.H p with
  | none => rfl
  | some u => exact absurd h (O.g.t p (by rw [q]; simp))
theorem Ow.frzE (O : Ow Z F cs H) (i : Nat) (e : cs[i]? = some (a, o)) (hz : Z.H a = none) : ∃ F', Ow Z F' (cs.eraseIdx i) H ∧ Same F F' ∧ F' a = some o := ⟨_, O.frz i e hz, O.frzS i e, upd_same⟩
/-- a cell that a call made -/
theorem Ow.got (O : Ow Z F cs H) (O' : Ow Z F' cs' H') (hk : cs'.map (·.1) = cs.map (·.1)) (hn : H p = none) (hf : F' p = none) (h : H' p = some o) (ht : noTup o = true := by rfl) : Ow Z F' ((p, o) :: cs') H' :=
  O'.add O (fun c hc => by rw [← hk]; exact List.mem_map.mpr ⟨c, hc, rfl⟩) hn hf h ht
end
theorem rangeL_get0 {n : Int} {i : Nat} (h : i < n.toNat) : (rangeL 0 n).drop i = (0 + (i : Int)) :: (rangeL 0 n).drop (i + 1) := rangeL_get (by simpa using h)
theorem rangeL_end0 {n : Int} : (rangeL 0 n).drop n.toNat = [] := by
  have := rangeL_end (lo := 0) (hi := n)
  simpa using this
theorem iteD {c A B : Prop} [Decidable c] (h1 : c → A) (h2 : ¬ c → B) : if decide c = true then A else B := by
  by_cases h : c
  · rw [decide_eq_true h, if_pos rfl]; exact h1 h
  · rw [decide_eq_false h, if_neg Bool.false_ne_true]; exact h2 h
theorem iteN {c A B : Prop} [Decidable c] (h1 : c → B) (h2 : ¬ c → A) : if (!decide c) = true then A else B := by
  by_cases h : c
  · rw [decide_eq_true h]; exact h1 h
  · rw [decide_eq_false h]; exact h2 h
theorem iteB {b : Bool} {A B : Prop} (h1 : b = true → A) (h2 : ¬ b = true → B) : if b = true then A else B := by
  cases b with
  | true => exact h1 rfl
  | false => exact h2 Bool.false_ne_true
theorem iteBN {b : Bool} {A B : Prop} (h1 : b = true → B) (h2 : ¬ b = true → A) : if (!b) = true then A else B := by
  cases b with
  | true => exact h1 rfl
  | false => exact h2 Bool.false_ne_true
theorem iteNT {A B : Prop} (h : B) : if (!true) = true then A else B := h
theorem iteNF {A B : Prop} (h : A) : if (!false) = true then A else B := h
theorem wp_if {a : Type} {Q : a → Prop} {E : String → Prop} {c : Prop} [Decidable c] {x y : M a} (h : wp (if c then x else y) Q E) (hc : c) : wp x Q E := by
  rw [if_pos hc] at h
  exact h
theorem wp_el {a : Type} {Q : a → Prop} {E : String → Prop} {c : Prop} [Decidable c] {x y : M a} (h : wp (if c then x else y) Q E) (hc : ¬ c) : wp y Q E := by
  rw [if_neg hc] at h
  exact h

theorem hu128_of {A : Around} {k : Nat} (hr : Room k A) : A.units + 128 < cLine := by have := hr.un; omega
def cutL {a : Type} (xs : List a) (lo hi : Option Int) : List a := (xs.drop (HT.sIx xs.length 0 lo)).take (HT.sIx xs.length xs.length hi - HT.sIx xs.length 0 lo)
theorem RL.cutL {a : Type} [Py a] {H : Hp} {vs : List V} {xs : List a} (h : RL H vs xs) (lo hi : Option Int) : RL H (cutV vs lo hi) (PG.cutL xs lo hi) := h.cut lo hi
theorem RL.last {a : Type} [Py a] {H : Hp} {vs : List V} {xs : List a} {y : a} (h : RL H vs xs) (e : xs[xs.length - 1]? = some y) : ∃ w, vs[vs.length - 1]? = some w ∧ R H w y := by
  obtain ⟨w, e1, h1⟩ := h.get e
  exact ⟨w, by rw [h.len]; exact e1, h1⟩

theorem okR.rg1 {n : Int} (h : okR n) : RgOk 0 n := by
  obtain ⟨a, b⟩ := h
  exact ⟨by omega, by omega, by omega, by omega, by omega⟩
theorem rgV_eq (a b : Int) : rgV a b = (rangeL a b).map V.int := by
  unfold rgV rangeL
  rw [List.map_map]
  rfl
theorem RL.rg {H : Hp} {a b : Int} : RL H (rgV a b) (rangeL a b) := by
  rw [rgV_eq]
  exact RL.of_ints

theorem comp_len {b : Type} {w vs : List V} {xs : List b} {i : Nat} {x : V} (la : w.length ≤ i) (hi : vs[i]? = some x) (hl : vs.length = xs.length) (c : xs.length < 16777216) : w.length < sizeLine := by
  have := (List.getElem?_eq_some_iff.mp hi).1
  exact lt_line (by omega)
theorem rangeL_length (lo hi : Int) : (rangeL lo hi).length = (hi - lo).toNat := by
  unfold rangeL
  simp
theorem comp_lenR {w : List V} {lo hi : Int} {i n : Nat} (la : w.length ≤ i) (h : i < n) (e : (hi - lo).toNat = n) (c : (rangeL lo hi).length < 16777216) : w.length < sizeLine := by
  rw [rangeL_length] at c
  exact lt_line (by omega)
theorem tYes_ {σ : L2.St} {H : Hp} {Q : Bool → Hp → Prop} (h : Q true H) : tYes σ H Q := h

/-! lists of own lists of ints -/
abbrev LC := Addr × List Int
def lcell (c : LC) : Addr × HO := (c.1, .lst (c.2.map V.int))
theorem Ow.perm {Z : Ent} {F H : Hp} {cs cs' : List (Addr × HO)} (O : Ow Z F cs H) (h : cs.Perm cs') : Ow Z F cs' H where
  g := O.g
  cf := fun c hc => O.cf c (h.mem_iff.mpr hc)
  ch := fun c hc => O.ch c (h.mem_iff.mpr hc)
  nd := (h.map _).nodup_iff.mp O.nd
  ca := fun c hc => O.ca c (h.mem_iff.mpr hc)
  nt := fun c hc => O.nt c (h.mem_iff.mpr hc)
theorem Ow.sub {Z : Ent} {F H : Hp} {cs cs' : List (Addr × HO)} (O : Ow Z F cs H) (h : cs'.Sublist cs) : Ow Z F cs' H where
  g := O.g
  cf := fun c hc => O.cf c (h.subset hc)
  ch := fun c hc => O.ch c (h.subset hc)
  nd := O.nd.sublist (h.map _)
  ca := fun c hc => O.ca c (h.subset hc)
  nt := fun c hc => O.nt c (h.subset hc)
/-- a new list of new lists -/
structure OwnLL (H F' H' : Hp) (p : Addr) (ps : List LC) : Prop where
  pn : H p = none
  pf : F' p = none
  ph : H' p = some (.lst (ps.map fun c => V.ref c.1))
  qn : ∀ c ∈ ps, H c.1 = none
  qf : ∀ c ∈ ps, F' c.1 = none
  qh : ∀ c ∈ ps, H' c.1 = some (.lst (c.2.map V.int))
  nd : (p :: ps.map (·.1)).Nodup
theorem OwnLL.frz {F H F' H' : Hp} {p : Addr} {ps : List LC} {as : List Addr} (G : Gr as F H F' H') (L : OwnLL H F' H' p ps) :
    ∃ F2, Gr as F H F2 H' ∧ F2 p = none ∧ RL F2 (ps.map fun c => V.ref c.1) (ps.map (·.2)) := by
  refine ⟨fun b => if b ∈ ps.map (·.1) then H' b else F' b, ⟨fun b o e => ?_, fun b o e => ?_, G.k, G.t, fun b e => ?_, G.u⟩, ?_, ?_⟩
  · have h1 := G.f b o e
    by_cases hb : b ∈ ps.map (·.1)
    · obtain ⟨c, hc, rfl⟩ := List.mem_map.mp hb
      rw [L.qf c hc] at h1
      cases h1
    · show (if b ∈ ps.map (·.1) then H' b else F' b) = some o
      rw [if_neg hb]
      exact h1
  · have e : (if b ∈ ps.map (·.1) then H' b else F' b) = some o := e
    by_cases hb : b ∈ ps.map (·.1)
    · rw [if_pos hb] at e
      exact e
    · rw [if_neg hb] at e
      exact G.s b o e
  · show (if b ∈ ps.map (·.1) then H' b else F' b) = F b ∨ _
    have hb : b ∉ ps.map (·.1) := fun hb => by
      obtain ⟨c, hc, rfl⟩ := List.mem_map.mp hb
      exact e (L.qn c hc)
    rw [if_neg hb]
    exact G.n b e
  · show (if p ∈ ps.map (·.1) then H' p else F' p) = none
    rw [if_neg (List.nodup_cons.mp L.nd).1]
    exact L.pf
  · have all : ∀ l : List LC, (∀ c ∈ l, c ∈ ps) → RL (fun b => if b ∈ ps.map (·.1) then H' b else F' b) (l.map fun c => V.ref c.1) (l.map (·.2)) := by
      intro l
      induction l with
      | nil => intro _; exact RL.nil
      | cons c l ih =>
        intro h
        have hc := h c List.mem_cons_self
        refine RL.cons (R.lst (vs := c.2.map V.int) ?_ RL.of_ints) (ih fun d hd => h d (List.mem_cons_of_mem _ hd))
        show (if c.1 ∈ ps.map (·.1) then H' c.1 else F' c.1) = _
        rw [if_pos (List.mem_map.mpr ⟨c, hc, rfl⟩)]
        exact L.qh c hc
    exact all ps fun _ h => h
theorem FnOk.impC {P : Program} {w : World} {K : PySem.W.Frag} {mg : Str → Option Value} {base : Heap} {x : Str} {k : Nat} {ps : List Str} {sp sp' : Sp} (F : Ca P w K mg base x k ps sp) (h : ∀ vs H Q E, sp' vs H Q E → sp vs H Q E) : Ca P w K mg base x k ps sp' := by
  obtain ⟨f, fd, G, m, kp, b⟩ := F.ex
  exact ⟨f, fd, G.imp h, m, kp, b⟩
theorem wp_mono {a : Type} {Q Q' : a → Prop} {E : String → Prop} {m : M a} (h : wp m Q E) (f : ∀ r, Q r → Q' r) : wp m Q' E := wp_tail h (fun r _ q => f r q) fun _ e => e
/-- a scalar call that reads a cell: the cell is as it was, and nothing of the call is kept -/
theorem Ow.borrow {Z : Ent} {F F1 F' H H' : Hp} {cs : List (Addr × HO)} (O : Ow Z F cs H) (s1 : Same F F1) (g : Gr [] F1 H F' H') : Ow Z F cs H' where
  g := ⟨O.g.f, (s1.trans g.f).trans g.s, fun b o hb e => g.k b o (fun h => nomatch h) (O.g.k b o hb e), fun b e => g.t b (O.g.t b e), O.g.n, fun b xs e => by
    rcases g.u b xs e with z | z
    · refine .inl ?_
      cases q : Z.H b with
      | none => rfl
      | some u => exact absurd z (O.g.t b (by rw [q]; simp))
    · exact O.g.u b xs z⟩
  cf := O.cf
  ch := fun c hc => g.k _ _ (fun h => nomatch h) (O.ch c hc)
  nd := O.nd
  ca := O.ca
  nt := O.nt
theorem Ow.lend {Z : Ent} {F H : Hp} {cs : List (Addr × HO)} {a : Addr} {o : HO} (O : Ow Z F cs H) (i : Nat) (e : cs[i]? = some (a, o)) : ∃ F1, Same F F1 ∧ Pre F1 [] H ∧ F1 a = some o := by
  have m := List.mem_of_getElem? e
  refine ⟨upd F a o, Same.new (O.cf _ m), ⟨fun b u q => ?_, (fun _ h => nomatch h), (fun _ h => nomatch h), List.nodup_nil, fun _ h => nomatch h⟩, upd_same⟩
  by_cases hb : b = a
  · subst hb; rw [upd_same] at q; rw [← q]; exact O.ch _ m
  · rw [upd_ne hb] at q; exact O.s b u q

abbrev lrefs (ps : List LC) : List V := ps.map fun (c : LC) => V.ref c.1

def ret {a : Type} (x : a) : M a := .ok x
theorem wp_ret {a b : Type} {Q : a → Prop} {E : String → Prop} {x : b} {k : b → M a} (h : wp (ret x >>= k) Q E) : ∃ y, y = x ∧ wp (k y) Q E := ⟨x, rfl, h⟩

/-- tuples that stand may be read -/
theorem Ow.tups {Z : Ent} {F H : Hp} {cs : List (Addr × HO)} (O : Ow Z F cs H) (bs : List Addr) (h : ∀ b ∈ bs, ∃ xs, H b = some (.tup xs)) : ∃ F', Ow Z F' cs H ∧ Same F F' ∧ ∀ b ∈ bs, F' b = H b := by
  refine ⟨fun b => if b ∈ bs then H b else F b, ⟨⟨fun b o e => ?_, fun b o e => ?_, O.g.k, O.g.t, fun b e => ?_, O.g.u⟩, fun c hc => ?_, O.ch, O.nd, O.ca, O.nt⟩, fun b o e => ?_, fun b hb => if_pos hb⟩
  · have h1 := O.g.f b o e
    show (if b ∈ bs then H b else F b) = some o
    by_cases hb : b ∈ bs
    · rw [if_pos hb]; exact O.s b o h1
    · rw [if_neg hb]; exact h1
  · have e : (if b ∈ bs then H b else F b) = some o := e
    by_cases hb : b ∈ bs
    · rw [if_pos hb] at e; exact e
    · rw [if_neg hb] at e; exact O.s b o e
  · show (if b ∈ bs then H b else F b) = Z.F b ∨ _
    by_cases hb : b ∈ bs
    · obtain ⟨xs, hx⟩ := h b hb
      rcases O.g.u b xs hx with z | z
      · exact absurd z e
      · exact .inr ⟨xs, z⟩
    · rw [if_neg hb]; exact O.g.n b e
  · show (if c.1 ∈ bs then H c.1 else F c.1) = none
    by_cases hb : c.1 ∈ bs
    · obtain ⟨xs, hx⟩ := h c.1 hb
      have hn := O.nt c hc
      rw [O.ch c hc] at hx
      rw [Option.some.inj hx] at hn
      cases hn
    · rw [if_neg hb]; exact O.cf c hc
  · show (if b ∈ bs then H b else F b) = some o
    by_cases hb : b ∈ bs
    · rw [if_pos hb]; exact O.s b o e
    · rw [if_neg hb]; exact e
end PG

set_option Elab.async false
set_option linter.all false
set_option maxRecDepth 100000
set_option maxHeartbeats 4000000
namespace PG
open PySem PySem.Spec PyProof.Rows L2
open PySem.W (T3 T4 Datum DatumOrd Holds HoldAll EachIs)

theorem u1_of {n : Nat} (h : n + 64 < cLine) : n + 1 < cLine := Nat.lt_of_le_of_lt (Nat.add_le_add_left (by decide) _) h
/-! ### dicts: what stands for a key -/
class DK (κ : Type) (K' : outParam Type) where
  kk : κ → K'
  inj : ∀ a b, kk a = kk b → a = b
instance : DK Int Key := ⟨Sum.inl, fun _ _ h => Sum.inl.inj h⟩
instance : DK Str Key := ⟨Sum.inr, fun _ _ h => Sum.inr.inj h⟩
instance : DK (Int × Int) (List Key) := ⟨fun p => [.inl p.1, .inl p.2], fun a b h => by
  injection h with h1 h2
  injection h2 with h2 _
  exact Prod.ext (Sum.inl.inj h1) (Sum.inl.inj h2)⟩
section
variable {κ K' β : Type} [DK κ K'] [Py β]
inductive RD (F : Hp) : List (K' × V) → List (κ × β) → Prop
  | nil : RD F [] []
  | cons {k : κ} {v : V} {y : β} {kvs : List (K' × V)} {xs : List (κ × β)} : R F v y → RD F kvs xs → RD F ((DK.kk k, v) :: kvs) ((k, y) :: xs)
variable {F F' : Hp}
theorem RD.mono {kvs : List (K' × V)} {xs : List (κ × β)} (h : RD F kvs xs) (s : Same F F') : RD F' kvs xs := by
  induction h with
  | nil => exact .nil
  | cons h _ ih => exact .cons (h.mono s) ih
theorem RD.len {kvs : List (K' × V)} {xs : List (κ × β)} (h : RD F kvs xs) : kvs.length = xs.length := by
  induction h with
  | nil => rfl
  | cons h _ ih => rw [List.length_cons, List.length_cons, ih]
theorem RD.keys {kvs : List (K' × V)} {xs : List (κ × β)} (h : RD F kvs xs) : kvs.map (·.1) = (xs.map (·.1)).map DK.kk := by
  induction h with
  | nil => rfl
  | cons h _ ih => rw [List.map_cons, List.map_cons, List.map_cons, ih]
end
section
variable {κ K' β : Type} [DK κ K'] [DecidableEq κ] [DecidableEq K'] [Py β] {F F' : Hp}
def dGet (xs : List (κ × β)) (k : κ) : Option β := (xs.find? fun p => decide (p.1 = k)).map (·.2)
def dPut (xs : List (κ × β)) (k : κ) (y : β) : List (κ × β) :=
  if (xs.any fun p => decide (p.1 = k)) = true then xs.map (fun p => if p.1 = k then (p.1, y) else p) else xs ++ [(k, y)]
def dHas (xs : List (κ × β)) (k : κ) : Bool := (dGet xs k).isSome
theorem kk_dec {a b : κ} : decide ((DK.kk a : K') = DK.kk b) = decide (a = b) := by
  by_cases h : a = b
  · subst h; simp
  · rw [decide_eq_false h, decide_eq_false fun z => h (DK.inj a b z)]
theorem dGet_pos {p : κ × β} {r : List (κ × β)} {k : κ} (e : p.1 = k) : dGet (p :: r) k = some p.2 := by simp [dGet, List.find?_cons, e]
theorem dGet_neg {p : κ × β} {r : List (κ × β)} {k : κ} (e : ¬ p.1 = k) : dGet (p :: r) k = dGet r k := by simp [dGet, List.find?_cons, e]
theorem RD.get {kvs : List (K' × V)} {xs : List (κ × β)} (h : RD F kvs xs) (k : κ) :
    (dGet xs k = none ∧ valV kvs (DK.kk k) = none) ∨ ∃ y v, dGet xs k = some y ∧ valV kvs (DK.kk k) = some v ∧ R F v y := by
  induction h with
  | nil => exact .inl ⟨rfl, rfl⟩
  | @cons j v y kvs xs h hs ih =>
    by_cases e : j = k
    · exact .inr ⟨y, v, dGet_pos e, valV_pos (by rw [e]), h⟩
    · rw [dGet_neg (p := (j, y)) e, valV_neg (fun z => e (DK.inj j k z))]
      exact ih
theorem RD.some {kvs : List (K' × V)} {xs : List (κ × β)} (h : RD F kvs xs) {k : κ} {y : β} (e : dGet xs k = some y) : ∃ v, valV kvs (DK.kk k) = some v ∧ R F v y := by
  rcases h.get k with ⟨a, _⟩ | ⟨y', v, a, b, c⟩
  · rw [e] at a; cases a
  · rw [e] at a; cases a; exact ⟨v, b, c⟩
theorem RD.is {kvs : List (K' × V)} {xs : List (κ × β)} (h : RD F kvs xs) (k : κ) : (valV kvs (DK.kk k)).isSome = dHas xs k := by
  unfold dHas
  rcases h.get k with ⟨a, b⟩ | ⟨y', v, a, b, c⟩
  · rw [a, b]; rfl
  · rw [a, b]; rfl
theorem RD.map {kvs : List (K' × V)} {xs : List (κ × β)} (h : RD F kvs xs) (k : κ) {v : V} {y : β} (hv : R F v y) :
    RD F (kvs.map fun kv => if kv.1 = DK.kk k then (kv.1, v) else kv) (xs.map fun p => if p.1 = k then (p.1, y) else p) := by
  induction h with
  | nil => exact .nil
  | @cons j u z kvs xs h hs ih =>
    rw [List.map_cons, List.map_cons]
    by_cases e : j = k
    · rw [if_pos e, if_pos (show (DK.kk j, u).1 = DK.kk k by rw [e])]
      exact .cons hv ih
    · rw [if_neg e, if_neg (show ¬ (DK.kk j, u).1 = DK.kk k from fun z => e (DK.inj j k z))]
      exact .cons h ih
theorem RD.snoc {kvs : List (K' × V)} {xs : List (κ × β)} (h : RD F kvs xs) (k : κ) {v : V} {y : β} (hv : R F v y) : RD F (kvs ++ [(DK.kk k, v)]) (xs ++ [(k, y)]) := by
  induction h with
  | nil => exact .cons hv .nil
  | cons h _ ih => exact .cons h ih
theorem RD.any {kvs : List (K' × V)} {xs : List (κ × β)} (h : RD F kvs xs) (k : κ) : (kvs.any fun kv => decide (kv.1 = DK.kk k)) = (xs.any fun p => decide (p.1 = k)) := by
  induction h with
  | nil => rfl
  | @cons j u z kvs xs h hs ih => rw [List.any_cons, List.any_cons, ih, kk_dec]
theorem RD.put {kvs : List (K' × V)} {xs : List (κ × β)} (h : RD F kvs xs) (k : κ) {v : V} {y : β} (hv : R F v y) : RD F (putK kvs (DK.kk k) v) (dPut xs k y) := by
  unfold putK dPut
  rw [h.any k]
  by_cases e : (xs.any fun p => decide (p.1 = k)) = true
  · rw [if_pos e, if_pos e]; exact h.map k hv
  · rw [if_neg e, if_neg e]; exact h.snoc k hv
def putD (xs : List (κ × β)) (k : κ) (y : β) : M (List (κ × β)) := if xs.length < 16777216 then .ok (dPut xs k y) else bad
theorem wp_putD {a : Type} {Q : a → Prop} {E : String → Prop} {xs : List (κ × β)} {j : κ} {y : β} {k : List (κ × β) → M a} (h : wp (putD xs j y >>= k) Q E) : xs.length < sizeLine ∧ wp (k (dPut xs j y)) Q E := by
  unfold putD at h
  by_cases hl : xs.length < 16777216
  · rw [if_pos hl] at h
    exact ⟨lt_line hl, h⟩
  · rw [if_neg hl] at h
    exact h.elim
end
/-- a dict that is read alone -/
class DO (K' : Type) where
  ho : List (K' × V) → HO
instance : DO Key := ⟨.dK⟩
instance : DO (List Key) := ⟨.dT⟩
section
variable {κ K' β : Type} [DK κ K'] [Py β] [DO K'] {F F' H : Hp} {v : V} {a b : Addr}
def RDv (F : Hp) (v : V) (xs : List (κ × β)) : Prop := ∃ (a : Addr) (kvs : List (K' × V)), v = .ref a ∧ F a = some (DO.ho kvs) ∧ RD F kvs xs
theorem RDv.mono {xs : List (κ × β)} (h : RDv F v xs) (s : Same F F') : RDv F' v xs := by
  obtain ⟨a, kvs, e, h1, h2⟩ := h
  exact ⟨a, kvs, e, s _ _ h1, h2.mono s⟩
theorem RDv.mk {xs : List (κ × β)} {kvs : List (K' × V)} (h : F a = some (DO.ho kvs)) (hr : RD F kvs xs) : RDv F (.ref a) xs := ⟨a, kvs, rfl, h, hr⟩
end
section
variable {β : Type} [Py β] {F H : Hp} {a b : Addr}
theorem dget_T {kvs : List (List Key × V)} {i j : Int} {v : V} (e : H a = some (.dT kvs)) (eb : H b = some (.tup [.int i, .int j])) (hv : valV kvs (DK.kk (i, j)) = some v) : DGet H a (.ref b) (some v) := by
  rw [← hv]
  exact DGet.t (k := [.inl i, .inl j]) e eb
theorem dget_I {kvs : List (Key × V)} {i : Int} {v : V} (e : H a = some (.dK kvs)) (hv : valV kvs (DK.kk i) = some v) : DGet H a (.int i) (some v) := by
  rw [← hv]
  exact DGet.k (k := .inl i) e
theorem dget_S {kvs : List (Key × V)} {i : Str} {v : V} (e : H a = some (.dK kvs)) (hv : valV kvs (DK.kk i) = some v) : DGet H a (.str i) (some v) := by
  rw [← hv]
  exact DGet.k (k := .inr i) e
theorem din_T {kvs : List (List Key × V)} {i j : Int} {xs : List ((Int × Int) × β)} (e : H a = some (.dT kvs)) (eb : H b = some (.tup [.int i, .int j])) (hr : RD F kvs xs) : ∃ o, DGet H a (.ref b) o ∧ o.isSome = dHas xs (i, j) :=
  ⟨_, DGet.t (k := [.inl i, .inl j]) e eb, hr.is (i, j)⟩
theorem din_I {kvs : List (Key × V)} {i : Int} {xs : List (Int × β)} (e : H a = some (.dK kvs)) (hr : RD F kvs xs) : ∃ o, DGet H a (.int i) o ∧ o.isSome = dHas xs i :=
  ⟨_, DGet.k (k := .inl i) e, hr.is i⟩
theorem din_S {kvs : List (Key × V)} {i : Str} {xs : List (Str × β)} (e : H a = some (.dK kvs)) (hr : RD F kvs xs) : ∃ o, DGet H a (.str i) o ∧ o.isSome = dHas xs i :=
  ⟨_, DGet.k (k := .inr i) e, hr.is i⟩
theorem dput_T {kvs : List (List Key × V)} {i j : Int} {v : V} (e : H a = some (.dT kvs)) (eb : H b = some (.tup [.int i, .int j])) (hl : kvs.length < sizeLine) : DPut H a (.ref b) v (upd H a (.dT (putK kvs (DK.kk (i, j)) v))) := DPut.t (k := [.inl i, .inl j]) e eb hl
theorem dput_I {kvs : List (Key × V)} {i : Int} {v : V} (e : H a = some (.dK kvs)) (hl : kvs.length < sizeLine) : DPut H a (.int i) v (upd H a (.dK (putK kvs (DK.kk i) v))) := DPut.k (k := .inl i) e hl
theorem dput_S {kvs : List (Key × V)} {i : Str} {v : V} (e : H a = some (.dK kvs)) (hl : kvs.length < sizeLine) : DPut H a (.str i) v (upd H a (.dK (putK kvs (DK.kk i) v))) := DPut.k (k := .inr i) e hl
end
/-! sorted(d), the keys pairs of whole numbers -/
theorem keys_tups {H : Hp} {kvs : List (List Key × V)} {bs : List Addr} (h : IsKeys H kvs bs) : ∀ b ∈ bs, ∃ xs, H b = some (.tup xs) := by
  unfold IsKeys at h
  induction h with
  | nil => intro b hb; simp at hb
  | cons h t ih =>
    intro c hc
    rcases List.mem_cons.mp hc with rfl | hc
    · exact ⟨_, h⟩
    · exact ih c hc
theorem keys_rl {H : Hp} {kvs : List (List Key × V)} {bs : List Addr} (h : IsKeys H kvs bs) : ∀ {ks : List (Int × Int)}, kvs.map (·.1) = ks.map DK.kk → RL H (bs.map V.ref) ks := by
  unfold IsKeys at h
  induction h with
  | nil =>
    intro ks e
    cases ks with
    | nil => exact RL.nil
    | cons k ks => simp at e
  | cons h t ih =>
    intro ks e
    cases ks with
    | nil => simp at e
    | cons k ks =>
      rw [List.map_cons, List.map_cons] at e
      injection e with e1 e2
      rw [e1] at h
      exact RL.cons (R.t2 h R.int R.int) (ih e2)
theorem keys_in {H F : Hp} {kvs : List (List Key × V)} {bs : List Addr} {ks : List (Int × Int)} (h : IsKeys H kvs bs) (hf : ∀ b ∈ bs, F b = H b) (e : kvs.map (·.1) = ks.map DK.kk) : RL F (bs.map V.ref) ks := by
  refine keys_rl ?_ e
  unfold IsKeys at h ⊢
  clear e
  induction h with
  | nil => exact .nil
  | @cons x b xs bs h t ih =>
    refine .cons ?_ (ih fun c hc => hf c (List.mem_cons_of_mem _ hc))
    rw [hf b List.mem_cons_self]
    exact h
section
variable {X : Cx}
theorem cr_sortedDT (hcalm : X.calm = true) (hu : X.A.units + 128 < cLine) : CallR X (.builtin "sorted") (fun xs H Q => ∃ (d : Addr) (kvs : List (List Key × V)) (ks : List (Int × Int)), xs = [.ref d] ∧ H d = some (.dT kvs) ∧ kvs.map (·.1) = ks.map DK.kk ∧
    ∀ (bs : List Addr) (p : Addr), IsKeys H kvs bs → H p = none → Q (.ref p) (upd H p (.lst (sortV (bs.map V.ref) ks)))) := by
  intro pins s σ H xs us Q I r q
  obtain ⟨d, kvs, ks', ex, hd, hks, q⟩ := q
  subst ex
  obtain ⟨u, eu, rx⟩ := vals1 r
  subst eu
  cases rx
  obtain ⟨z, hs, ks, pr, o, es, ep, ho, hx, hdt, he, hn⟩ := (show ObjOk X.prog X.w H s.heap d (.dT kvs) from I.hok d _ hd)
  have l1 : es.size = ks.length := size_of_entries he
  have l2 : kvs.length = ks.length := Paired.length pr
  refine Calls.call_function_entry PyProof.Rows.kind_sorted PyProof.Rows.plain_sorted PyProof.Rows.entry_sorted (PyProof.Rows.args_sorted1 _) ?_
  unfold Builtin.«sorted»
  refine wpAny_bind (m := checkCount "sorted" 1 1 _) (wpAny_pure ?_)
  refine wpAny_bind (PySem.W.kdu_collect (A := X.A.in1) (kdl_raw hs hx hdt) (I.ok.hd hcalm) ho (by omega) fun h' tk acc kp it => ?_)
  have ea : acc.toList = ks.map fun x => Value.ref x.2.1 := by
    have hl : acc.toList.length = ks.length := by rw [Array.length_toList, it.1]; exact l1
    apply List.ext_getElem?
    intro j
    rw [List.getElem?_map]
    cases hj : acc.toList[j]? with
    | none =>
      have h1 := List.getElem?_eq_none_iff.mp hj
      rw [List.getElem?_eq_none (by omega)]
      all_goals rfl
    | some v =>
      obtain ⟨en, hen, hv⟩ := it.2 j v (by rw [← Array.getElem?_toList]; exact hj)
      have qe := entry_at he j
      rw [hen] at qe
      cases hb : ks[j]? with
      | none =>
        rw [hb] at qe
        exact nomatch (show some en = none from qe)
      | some b =>
        rw [hb] at qe
        have e2 : en = entryOfKey (tupleKind (mixKind X.prog X.w)) b := Option.some.inj qe
        rw [hv, e2]
        all_goals rfl
  have eb : acc.toList = (ks.map fun (x : List Key × Addr × Value) => x.2.1).map Value.ref := by rw [ea, List.map_map]; all_goals rfl
  have rv : Vals ((ks.map fun (x : List Key × Addr × Value) => x.2.1).map V.ref) acc.toList := by rw [eb]; exact vals_refs _
  have hik : IsKeys H kvs (ks.map fun (x : List Key × Addr × Value) => x.2.1) := isKeys_of pr
  have hrl := keys_rl hik hks
  have hlen : ((ks.map fun (x : List Key × Addr × Value) => x.2.1).map V.ref).length = ks'.length := hrl.len
  have hal : acc.toList.length = ks.length := by rw [ea, List.length_map]
  have I1 : Inv X pins σ H { s with heap := h', toks := tk } := I.kept kp
  have hE := each_pairs hrl rv
  have hR : EachIs (fun u (p : V × (Int × Int)) => ∃ as, PySem.Reads h' u (Datum.toD p.2) as) acc.toList (((ks.map fun (x : List Key × Addr × Value) => x.2.1).map V.ref).zip ks') := each_imp (fun u p hp => hp.2.holds I1 hp.1) hE
  have hoL : (h'.push (seqObj "list" acc.toList.toArray 0)).get? h'.objs.size = some (seqObj "list" acc.toList.toArray 0) := Heap.get?_push_size _ rfl
  have hz : acc.toList.length ≤ sizeLine := by rw [hal]; omega
  refine wpAny_bind (wpAny_newList ?_ hz)
  show wpAny _ _ _ _ _ { s with heap := h'.push (seqObj "list" acc.toList.toArray 0), toks := tk }
  have er' : EachIs (fun v (p : V × (Int × Int)) => ∃ as, PySem.Reads (PySem.W.sortingHeap (h'.push (seqObj "list" acc.toList.toArray 0)) h'.objs.size acc.toList) v (Datum.toD p.2) as) acc.toList (((ks.map fun (x : List Key × Addr × Value) => x.2.1).map V.ref).zip ks') :=
    hR.mono fun _ _ ⟨as, r⟩ => ⟨as, PyProof.Rows.Reads.keeps (fun b o e => PySem.W.sortingHeap_old (Nat.ne_of_lt (Heap.lt_size e)) (Heap.get?_push_of_some _ e)) r⟩
  have hal2 : PySem.W.AllAlike ((((ks.map fun (x : List Key × Addr × Value) => x.2.1).map V.ref).zip ks').map fun p => Datum.toD p.2) := PySem.W.AllAlike.of fun p q => DatumOrd.alike p.2 q.2
  refine wpAny_bind (wpAny_holding (wpAny_call_entry PyProof.Rows.slot_list_sort ⟨_, hoL, rfl⟩ PyProof.Rows.entry_list_sort
    (PySem.W.list_sort_vals (κ := PySem.W.dataKind (PySem.W.sortingHeap (h'.push (seqObj "list" acc.toList.toArray 0)) h'.objs.size acc.toList) ((((ks.map fun (x : List Key × Addr × Value) => x.2.1).map V.ref).zip ks').map fun p => Datum.toD p.2)) (s := { s with heap := h'.push (seqObj "list" acc.toList.toArray 0), toks := tk }) hoL
      (PySem.W.SortsAt.data (s := { s with heap := PySem.W.sortingHeap (h'.push (seqObj "list" acc.toList.toArray 0)) h'.objs.size acc.toList, toks := tk }) (PySem.W.each_map (R := fun v d => ∃ as, PySem.Reads (PySem.W.sortingHeap (h'.push (seqObj "list" acc.toList.toArray 0)) h'.objs.size acc.toList) v d as) (fun (p : V × (Int × Int)) => Datum.toD p.2) er') hal2 ?_ ?_) hz ⟨_, rfl, ?_⟩)
    (PyProof.Rows.args_list_sort _)))
  · exact PySem.W.Sortable.tuples fun p => ⟨_, _, rfl⟩
  · intro dd hdd
    obtain ⟨p, _, rfl⟩ := List.mem_map.mp hdd
    have hdp : Datum.depth (Int × Int) ≤ 100 := by decide
    have := Datum.depth_le p.2
    have hA : X.A.in1.in1.units ≤ X.A.units + 2 := by simp [Around.in1]
    omega
  · have he2 := PySem.W.sortVals_data (R := fun (u : Value) (p : V × (Int × Int)) => RelV p.1 u ∧ R H p.1 p.2) (enc := fun p => Datum.toD p.2) false hE er' hal2
    rw [dataLe_T (fun p : V × (Int × Int) => p.2)] at he2
    obtain ⟨q1, q2⟩ := pairs_vals he2
    obtain ⟨e', he'⟩ := PyProof.Rows.sortedHeap_at (vs := acc.toList) (out := (PySem.W.sortVals (PySem.W.dataKind (PySem.W.sortingHeap (h'.push (seqObj "list" acc.toList.toArray 0)) h'.objs.size acc.toList) ((((ks.map fun (x : List Key × Addr × Value) => x.2.1).map V.ref).zip ks').map fun p => Datum.toD p.2)) false acc.toList acc.toList).toArray) hoL
    refine wpAny_pure ⟨_, rfl, .ref h'.objs.size, upd H h'.objs.size (.lst (sortV ((ks.map fun (x : List Key × Addr × Value) => x.2.1).map V.ref) ks')), I1.laid (t' := tk) (fun b u e => ?_) (Nat.le_refl _)
      (show ObjOk X.prog X.w _ _ _ (.lst _) from ⟨?_, _, e', q1, he'⟩), rfl, q _ _ hik (I1.hok.fresh (Nat.le_refl _))⟩
    · have hb : b < h'.objs.size := Heap.lt_size e
      rw [PyProof.Rows.sortedHeap_old (Nat.ne_of_lt hb) (by rw [size_push']; exact Nat.lt_succ_of_lt hb)]
      exact Heap.get?_push_of_some _ e
    · unfold sortV
      rw [List.length_map, List.length_mergeSort, List.length_zip, hlen, Nat.min_self, ← hlen, List.length_map, List.length_map]
      omega
end
end PG

set_option Elab.async false
set_option linter.all false
set_option maxRecDepth 100000
set_option maxHeartbeats 4000000
namespace PG
open PySem PySem.Spec PyProof.Rows L2
open PySem.W (T3 T4 Datum DatumOrd Holds HoldAll EachIs)

/-! ### a list of two things of two kinds -/
structure HL2 (a b : Type) where
  a : a
  b : b
  deriving DecidableEq
theorem HL2.same {a b : Type} : ∀ {p q : HL2 a b}, p.a = q.a → p.b = q.b → p = q
  | ⟨_, _⟩, ⟨_, _⟩, rfl, rfl => rfl
section
variable {α β : Type} [DecidableEq α] [Datum α] [DecidableEq β] [Datum β]
instance : Datum (HL2 α β) where
  toD p := .list [Datum.toD p.a, Datum.toD p.b]
  plain p := by simp only [PyData.plain, PyData.plainAll, Datum.plain, Bool.and_self]
  eqv p q := by
    simp only [PyData.eqv, PyData.eqvAll]
    rw [Datum.eqv, Datum.eqv, Bool.and_true, ← Bool.decide_and]
    exact decide_eq_decide.mpr ⟨fun e => HL2.same e.1 e.2, fun e => by rw [e]; exact ⟨rfl, rfl⟩⟩
  depth := max (Datum.depth α) (Datum.depth β) + 1
  depth_le p := by
    simp only [PyData.depth, PyData.depthAll]
    have h0 := Datum.depth_le p.a
    have h1 := Datum.depth_le p.b
    omega
end
instance {a b : Type} [Py a] [Py b] : Py (HL2 a b) := ⟨fun p => .list [Py.toD p.a, Py.toD p.b]⟩
section
variable {a b : Type} [Py a] [DecidableEq a] [Datum a] [IsD a] [Py b] [DecidableEq b] [Datum b] [IsD b]
instance : IsD (HL2 a b) := ⟨fun p => by show PyData.list [_, _] = PyData.list [_, _]; rw [IsD.eq, IsD.eq]⟩
end
theorem R.hl2 {a b : Type} [Py a] [Py b] {H : Hp} {p : Addr} {x : HL2 a b} {v1 v2 : V} (ha : H p = some (.lst [v1, v2])) (h1 : R H v1 x.a) (h2 : R H v2 x.b) : R H (.ref p) x := Rep.lst ha (.cons h1 (.cons h2 .nil))
/-! ### data without lists within -/
class NoL (a : Type) [Py a] : Prop where
  mv : ∀ (F F' : Hp), (∀ b xs, F b = some (.tup xs) → F' b = some (.tup xs)) → ∀ (v : V) (x : a), R F v x → R F' v x
instance : NoL Int := ⟨fun _ _ _ _ _ h => by rw [R.int_ h]; exact R.int⟩
instance : NoL Bool := ⟨fun _ _ _ _ _ h => by rw [R.bl_ h]; exact R.bl⟩
instance : NoL Str := ⟨fun _ _ _ _ _ h => by rw [R.str_ h]; exact R.str⟩
instance {a b : Type} [Py a] [Py b] [NoL a] [NoL b] : NoL (a × b) := ⟨fun _ _ t _ _ h => by
  obtain ⟨p, v1, v2, rfl, hp, h1, h2⟩ := R.t2_ h
  exact R.t2 (t _ _ hp) (NoL.mv _ _ t _ _ h1) (NoL.mv _ _ t _ _ h2)⟩
instance {a b c : Type} [Py a] [Py b] [Py c] [NoL a] [NoL b] [NoL c] : NoL (T3 a b c) := ⟨fun _ _ t _ _ h => by
  obtain ⟨p, v1, v2, v3, rfl, hp, h1, h2, h3⟩ := R.t3_ h
  exact R.t3 (t _ _ hp) (NoL.mv _ _ t _ _ h1) (NoL.mv _ _ t _ _ h2) (NoL.mv _ _ t _ _ h3)⟩
theorem RL.mv {a : Type} [Py a] [NoL a] {F F' : Hp} (t : ∀ b xs, F b = some (.tup xs) → F' b = some (.tup xs)) : ∀ {vs : List V} {xs : List a}, RL F vs xs → RL F' vs xs
  | _, [], h => by rw [RL.nil_ h]; exact RL.nil
  | _, x :: xs, h => by
    obtain ⟨w, ws, rfl, h1, h2⟩ := RL.cons_ h
    exact RL.cons (NoL.mv _ _ t _ _ h1) (RL.mv t h2)
/-! ### cells lent to a call -/
open Classical in
noncomputable def lendF (as : List Addr) (F H : Hp) : Hp := fun b => if b ∈ as then H b else F b
open Classical in
noncomputable def backF (as : List Addr) (F : Hp) : Hp := fun b => if b ∈ as then none else F b
section
variable {Z : Ent} {F F' H H' : Hp} {cs : List (Addr × HO)} {p a q : Addr} {o o' : HO} {as : List Addr}
theorem inA_nil : ∀ b ∈ ([] : List Addr), ∃ o, (b, o) ∈ cs := fun _ h => nomatch h
theorem inA_cons (i : Nat) (e : cs[i]? = some (a, o)) (h : ∀ b ∈ as, ∃ o, (b, o) ∈ cs) : ∀ b ∈ a :: as, ∃ o, (b, o) ∈ cs := fun b hb => by
  rcases List.mem_cons.mp hb with rfl | hb
  · exact ⟨o, List.mem_of_getElem? e⟩
  · exact h b hb
theorem lendF_at (h : a ∈ as) : lendF as F H a = H a := if_pos h
theorem Ow.lendS (O : Ow Z F cs H) (hin : ∀ b ∈ as, ∃ o, (b, o) ∈ cs) : Same F (lendF as F H) := fun b u e => by
  by_cases hb : b ∈ as
  · obtain ⟨o, hc⟩ := hin b hb
    have := O.cf _ hc
    have e' : F b = none := this
    rw [e'] at e; cases e
  · show (if b ∈ as then H b else F b) = _
    rw [if_neg hb]; exact e
theorem Ow.lendP (O : Ow Z F cs H) (hin : ∀ b ∈ as, ∃ o, (b, o) ∈ cs) : Pre (lendF as F H) [] H := by
  refine ⟨fun b u e => ?_, (fun _ h => nomatch h), (fun _ h => nomatch h), List.nodup_nil, fun _ h => nomatch h⟩
  have e : (if b ∈ as then H b else F b) = some u := e
  by_cases hb : b ∈ as
  · rw [if_pos hb] at e; exact e
  · rw [if_neg hb] at e; exact O.s b u e
theorem Ow.unlend (O : Ow Z F cs H) (hin : ∀ b ∈ as, ∃ o, (b, o) ∈ cs) (g : Gr [] (lendF as F H) H F' H') :
    Ow Z (backF as F') cs H' ∧ Same F (backF as F') ∧ (∀ b xs, F' b = some (.tup xs) → backF as F' b = some (.tup xs)) ∧ ∀ b, F' b = none → backF as F' b = none := by
  have inF : ∀ b, b ∉ as → ∀ u, F b = some u → F' b = some u := fun b hb u e => g.f b u (by
    show (if b ∈ as then H b else F b) = _
    rw [if_neg hb]; exact e)
  have nF : ∀ b ∈ as, F b = none := fun b hb => by obtain ⟨o, hc⟩ := hin b hb; exact O.cf _ hc
  have sF : Same F (backF as F') := fun b u e => by
    show (if b ∈ as then none else F' b) = _
    by_cases hb : b ∈ as
    · rw [nF b hb] at e; cases e
    · rw [if_neg hb]; exact inF b hb u e
  refine ⟨⟨⟨O.g.f.trans sF, fun b u e => ?_, fun b u hb e => g.k b u (fun h => nomatch h) (O.g.k b u hb e), fun b e => g.t b (O.g.t b e), fun b e => ?_, fun b xs e => ?_⟩, fun c hc => ?_, fun c hc => g.k _ _ (fun h => nomatch h) (O.ch c hc), O.nd, O.ca, O.nt⟩, sF, fun b xs e => ?_, fun b e => ?_⟩
  · have e : (if b ∈ as then none else F' b) = some u := e
    by_cases hb : b ∈ as
    · rw [if_pos hb] at e; cases e
    · rw [if_neg hb] at e; exact g.s b u e
  · show (if b ∈ as then none else F' b) = _ ∨ _
    by_cases hb : b ∈ as
    · rw [if_pos hb]
      rcases O.g.n b e with h0 | h0
      · rw [nF b hb] at h0; exact .inl h0
      · exact .inr h0
    · rw [if_neg hb]
      rcases O.g.n b e with h0 | h0
      · rcases g.n b (O.g.t b e) with h1 | ⟨xs, hx⟩
        · refine .inl (h1.trans ?_)
          show (if b ∈ as then H b else F b) = _
          rw [if_neg hb]; exact h0
        · rcases O.g.u b xs hx with z | z
          · exact absurd z e
          · exact .inr ⟨xs, z⟩
      · exact .inr h0
  · rcases g.u b xs e with z | z
    · refine .inl ?_
      cases q : Z.H b with
      | none => rfl
      | some u => exact absurd z (O.g.t b (by rw [q]; simp))
    · exact O.g.u b xs z
  · show (if c.1 ∈ as then none else F' c.1) = none
    by_cases hb : c.1 ∈ as
    · rw [if_pos hb]
    · rw [if_neg hb]
      have hl : lendF as F H c.1 = none := by
        show (if c.1 ∈ as then H c.1 else F c.1) = _
        rw [if_neg hb]; exact O.cf c hc
      exact g.none (O.ch c hc) (O.nt c hc) hl
  · show (if b ∈ as then none else F' b) = _
    by_cases hb : b ∈ as
    · obtain ⟨o, hc⟩ := hin b hb
      have h1 : lendF as F H b = some o := by
        show (if b ∈ as then H b else F b) = _
        rw [if_pos hb]; exact O.ch _ hc
      have h2 := g.f b o h1
      rw [e] at h2
      have h3 := O.nt _ hc
      have h3 : noTup o = true := h3
      rw [← Option.some.inj h2] at h3
      cases h3
    · rw [if_neg hb]; exact e
  · show (if b ∈ as then none else F' b) = _
    by_cases hb : b ∈ as
    · rw [if_pos hb]
    · rw [if_neg hb]; exact e
theorem Ow.fresh (O : Ow Z F cs H) (h : H p = none) : p ∉ cs.map (·.1) := fun hm => by
  obtain ⟨c, hc, e⟩ := List.mem_map.mp hm
  have z := O.ch c hc
  rw [e, h] at z
  cases z
theorem Ow.add' (O : Ow Z F cs H) (hm : p ∉ cs.map (·.1)) (hz : Z.H p = none) (hf : F p = none) (h : H p = some o) (ht : noTup o = true := by rfl) : Ow Z F ((p, o) :: cs) H where
  g := O.g
  cf := fun c hc => by
    rcases List.mem_cons.mp hc with rfl | hc
    · exact hf
    · exact O.cf c hc
  ch := fun c hc => by
    rcases List.mem_cons.mp hc with rfl | hc
    · exact h
    · exact O.ch c hc
  nd := by
    rw [List.map_cons, List.nodup_cons]
    exact ⟨hm, O.nd⟩
  ca := fun c hc => by
    rcases List.mem_cons.mp hc with rfl | hc
    · exact .inr hz
    · exact O.ca c hc
  nt := fun c hc => by
    rcases List.mem_cons.mp hc with rfl | hc
    · exact ht
    · exact O.nt c hc
theorem Ow.ne (O : Ow Z F cs H) (i j : Nat) (hij : i ≠ j) (ei : cs[i]? = some (a, o)) (ej : cs[j]? = some (q, o')) : a ≠ q := fun e => by
  subst e
  have h1 : (cs.map (·.1))[i]? = some a := by rw [List.getElem?_map, ei]; rfl
  have h2 : (cs.map (·.1))[j]? = some a := by rw [List.getElem?_map, ej]; rfl
  exact hij (nd_ix O.nd h1 h2)
end
theorem nmem2 {p q : Addr} {l : List Addr} (h : p ≠ q) (h2 : p ∉ l) : p ∉ q :: l := fun m => by
  rcases List.mem_cons.mp m with e | m
  · exact h e
  · exact h2 m
/-! ### while -/
inductive Ws (s r : Type) where
  | go (x : s)
  | stop (x : s)
  | rt (z : r)
def whL {s r : Type} (b : s → M (Ws s r)) : Nat → s → M (Fl s r)
  | 0, _ => bad
  | n + 1, x => b x >>= fun
    | .go x' => whL b n x'
    | .stop x' => .ok (.nx x')
    | .rt z => .ok (.rt z)
theorem whL_L {s r a : Type} {Q : a → Prop} {E : String → Prop} {b : s → M (Ws s r)} {n : Nat} {x : s} {k : Fl s r → M a} (h : wp (whL b n x >>= k) Q E) :
    ∃ (L : Nat → s → Prop) (X : s → Prop), L n x ∧ (∀ m x, L m x → wp (b x) (fun w => match w with
      | .go x' => ∃ m', m' < m ∧ L m' x'
      | .stop x' => X x'
      | .rt z => wp (k (.rt z)) Q E) E) ∧ ∀ x, X x → wp (k (.nx x)) Q E := by
  refine ⟨fun n x => wp (whL b n x >>= k) Q E, fun x => wp (k (.nx x)) Q E, h, fun m x hx => ?_, fun x hx => hx⟩
  cases m with
  | zero => exact hx.elim
  | succ m =>
    have hx : wp ((b x >>= fun
      | .go x' => whL b m x'
      | .stop x' => .ok (.nx x')
      | .rt z => .ok (.rt z)) >>= k) Q E := hx
    rw [wp_bind, wp_bind] at hx
    cases e : b x with
    | error e2 => rw [e] at hx; cases e2 <;> exact hx
    | ok w =>
      rw [e] at hx
      cases w with
      | go x' => exact ⟨m, Nat.lt_succ_self m, wp_bind.mpr hx⟩
      | stop x' => exact hx
      | rt z => exact hx
theorem while_P {c : TT} {tb : TS} {D : Ends} {σ : L2.St} {H : Hp} (W : Nat → L2.St → Hp → Prop) (X : L2.St → Hp → Prop) (n : Nat) (h0 : W n σ H) (exit : ∀ σ H, X σ H → D.nx σ H)
    (turn : (∀ σ H, X σ H → D.nx σ H) → ∀ m σ H, W m σ H → c σ H fun b H1 => if b = true then ∃ N : L2.St → Hp → Prop, (∀ σ' H', N σ' H' → ∃ m', m' < m ∧ W m' σ' H') ∧ tb { D with nx := N, ct := N, bk := D.nx } σ H1 else D.nx σ H1) : tWhile c tb D σ H :=
  ⟨W, ⟨n, h0⟩, turn exit⟩
/-! ### a < b < c < d -/
section
variable {X : Cx} {a b c d : Expr} {ta tb tc td : TE} {pos : Pos}
def tChain3 (r r' r'' : R2) (ta tb tc td : TE) : TE := fun σ H Q => ta σ H fun x H1 => tb σ H1 fun y H2 => r x y H2 fun z H3 => ∃ k, z = .bl k ∧
  (if k = true then tc σ H3 fun w' H4 => r' y w' H4 fun z' H5 => ∃ k', z' = .bl k' ∧ (if k' = true then td σ H5 fun u' H6 => r'' w' u' H6 Q else Q (.bl false) H5) else Q (.bl false) H3)
theorem pt_chain3 {op op' op'' : CmpOp} {r r' r'' : R2} (ho : OpR X (compareOp op) r) (ho' : OpR X (compareOp op') r') (ho'' : OpR X (compareOp op'') r'') (ha : PE X a ta) (hb : PE X b tb) (hc : PE X c tc) (hd : PE X d td)
    (hm : lastMarks [op, op', op''] [b, c, d] = false := by with_unfolding_all rfl) : PT X (.Compare a [op, op', op''] [b, c, d] pos) (tTest (tChain3 r r' r'' ta tb tc td)) := by
  refine ⟨fun pins s σ H Q I h => ?_⟩
  refine isTrue_chain (thn (ha.run pins s σ H _ I h) fun v s1 ⟨x, H1, I1, r1, q1⟩ => test_link (thn (hb.run pins s1 σ H1 _ I1 q1) fun u s2 ⟨y, H2, I2, r2, q2⟩ =>
    thn (ho pins s2 σ H2 x y v u _ I2 r1 r2 q2) fun d1 s3 ⟨z, H3, I3, r3, k, e, q3⟩ => ?_)) hm
  subst e
  cases r3
  refine wpAny_truthy_bool ?_
  cases k with
  | false =>
    obtain ⟨k', e', q'⟩ := q3
    cases e'
    exact ite_ff ⟨H3, I3, q'⟩
  | true =>
    refine ite_tt (test_link (thn (hc.run pins s3 σ H3 _ I3 q3) fun w' s4 ⟨z', H4, I4, r4, q4⟩ => thn (ho' pins s4 σ H4 y z' u w' _ I4 r2 r4 q4) fun d2 s5 ⟨z2, H5, I5, r5, k2, e2, q5⟩ => ?_))
    subst e2
    cases r5
    refine wpAny_truthy_bool ?_
    cases k2 with
    | false =>
      obtain ⟨k', e', q'⟩ := q5
      cases e'
      exact ite_ff ⟨H5, I5, q'⟩
    | true =>
      refine ite_tt (test_last (thn (hd.run pins s5 σ H5 _ I5 q5) fun u' s6 ⟨z3, H6, I6, r6, q6⟩ => thn (ho'' pins s6 σ H6 z' z3 w' u' _ I6 r4 r6 q6) fun d3 s7 ⟨z4, H7, I7, r7, k3, e3, q7⟩ => ?_))
      subst e3
      cases r7
      exact wpAny_truthy_bool ⟨H7, I7, q7⟩
end
/-! ### list.index of whole numbers -/
def ixI (xs : List Int) (y : Int) : M Int := if y ∈ xs then .ok ((xs.findIdx (· == y) : Nat) : Int) else bad
theorem wp_ixI {a : Type} {Q : a → Prop} {E : String → Prop} {xs : List Int} {y : Int} {k : Int → M a} (h : wp (ixI xs y >>= k) Q E) : ∃ j, xs.findIdx (· == y) = j ∧ xs[j]? = some y ∧ (∀ (m : Nat) z, m < j → xs[m]? = some z → z ≠ y) ∧ wp (k (j : Int)) Q E := by
  unfold ixI at h
  by_cases hm : y ∈ xs
  · rw [if_pos hm] at h
    have hlt : xs.findIdx (· == y) < xs.length := List.findIdx_lt_length_of_exists ⟨y, hm, by simp⟩
    refine ⟨_, rfl, ?_, fun m z hmj hz e => ?_, h⟩
    · rw [List.getElem?_eq_getElem hlt]
      have := List.findIdx_getElem (w := hlt)
      rw [eq_of_beq this]
    · have := List.not_of_lt_findIdx hmj
      obtain ⟨hl, hz⟩ := List.getElem?_eq_some_iff.mp hz
      rw [hz, e] at this
      simp at this
  · rw [if_neg hm] at h; exact h.elim
theorem all_flat_int : ∀ xs : List Int, (xs.map V.int).all flatV = true
  | [] => rfl
  | x :: xs => by rw [List.map_cons, List.all_cons, all_flat_int xs]; rfl
theorem int_noeq {xs : List Int} {y : Int} {j : Nat} (h : ∀ (m : Nat) z, m < j → xs[m]? = some z → z ≠ y) : ∀ (m : Nat) (z' : V), m < j → (xs.map V.int)[m]? = some z' → eqV z' (.int y) = false := fun m z' hm hz => by
  rw [List.getElem?_map] at hz
  cases e : xs[m]? with
  | none => rw [e] at hz; cases hz
  | some z =>
    rw [e] at hz
    have hz : V.int z = z' := Option.some.inj hz
    subst hz
    have := h m z hm e
    show (z == y) = false
    simpa using this
theorem int_at {xs : List Int} {y : Int} {j : Nat} (h : xs[j]? = some y) : (xs.map V.int)[j]? = some (.int y) := by rw [List.getElem?_map, h]; rfl
theorem int_eq {y : Int} : eqV (.int y) (.int y) = true := by show (y == y) = true; simp
/-! ### dict(list of pairs), the keys whole numbers -/
section
variable {β : Type} [Py β] {F H : Hp}
def mergeD (xs : List (Int × β)) : List (Int × β) := xs.foldl (fun acc p => dPut acc p.1 p.2) []
theorem merge_rd {kvs : List (Key × V)} {xs : List (Int × β)} (hs : RD F kvs xs) : ∀ {acc : List (Key × V)} {ac : List (Int × β)}, RD F acc ac → RD F (mergeK acc kvs) (xs.foldl (fun acc p => dPut acc p.1 p.2) ac) := by
  induction hs with
  | nil => intro acc ac h; exact h
  | @cons k v y kvs xs hv _ ih =>
    intro acc ac h
    exact ih (h.put k hv)
theorem pairs_of_rl {K : PySem.W.Frag} (s : Same F H) : ∀ {vs : List V} {xs : List (Int × β)}, RL F vs xs → ∃ (ps : List Addr) (kvs : List (Key × V)), vs = ps.map V.ref ∧ Paired (fun p kv => SqT K H p [kV kv.1, kv.2]) ps kvs ∧ RD F kvs xs
  | _, [], h => ⟨[], [], RL.nil_ h, .nil, .nil⟩
  | _, x :: xs, h => by
    obtain ⟨w, ws, rfl, h1, h2⟩ := RL.cons_ h
    obtain ⟨ps, kvs, e, hp, hr⟩ := pairs_of_rl (K := K) s h2
    obtain ⟨p, v1, v2, rfl, hp1, h3, h4⟩ := R.t2_ h1
    rw [R.int_ h3] at hp1
    exact ⟨p :: ps, (.inl x.1, v2) :: kvs, by rw [e]; rfl, .cons (SqT.of (s _ _ hp1)) hp, .cons (k := x.1) h4 hr⟩
end
/-! ### the same rules, the fragment told outright (within a comprehension) -/
section
variable {X : Cx} {K : PySem.W.Frag}
theorem ixTupK (h : X.K = K) : IxR X (rIxT K) := by rw [← h]; exact ix_tup
theorem ixListK (h : X.K = K) : IxR X (rIxL K) := by rw [← h]; exact ix_list
theorem listOfK (h : X.K = K) : CallR X (.type "list") (fun xs H Q => ∃ p ys, xs = [.ref p] ∧ (SqL K H p ys ∨ SqT K H p ys) ∧ ∀ l, H l = none → Q (.ref l) (upd H l (.lst ys))) := by rw [← h]; exact call_list_of
theorem isiK (h : X.K = K) : CallR X (.builtin "isinstance") (rIsi K) := by rw [← h]; exact call_isi
theorem slListK (h : X.K = K) : SlR X (rSlL K) := by rw [← h]; exact sl_list
theorem indexK (h : X.K = K) : MtR X "list.index" (rIndex K) := by rw [← h]; exact mt_index
end
/-! ### enumerate in a comprehension -/
def enumL {b : Type} (xs : List b) : List (Int × b) := xs.zipIdx.map fun p => ((p.2 : Int), p.1)
theorem enumL_get {b : Type} {xs : List b} {i : Nat} {x : b} (h : xs[i]? = some x) : (enumL xs).drop i = ((i : Int), x) :: (enumL xs).drop (i + 1) := by
  apply drop_at
  unfold enumL
  rw [List.getElem?_map, List.getElem?_zipIdx, h]
  simp
theorem enumL_len {b : Type} {xs : List b} : (enumL xs).length = xs.length := by unfold enumL; simp
theorem enumL_end {b : Type} {xs : List b} {vs : List V} (h : vs.length = xs.length) : (enumL xs).drop vs.length = [] := by
  rw [h, ← enumL_len, List.drop_length]
theorem comp_lenE {b : Type} {w vs : List V} {xs : List b} {i : Nat} (la : w.length ≤ i) (hi : i < vs.length) (hl : vs.length = xs.length) (c : (enumL xs).length < 16777216) : w.length < sizeLine := by
  rw [enumL_len] at c
  exact lt_line (by omega)
theorem zip_at {a b : Type} {xs : List a} {ys : List b} {i : Nat} {x : a} {y : b} (h : xs[i]? = some x) (h2 : ys[i]? = some y) : (xs.zip ys).drop i = (x, y) :: (xs.zip ys).drop (i + 1) := by
  apply drop_at
  rw [List.getElem?_zip_eq_some]
  exact ⟨h, h2⟩
theorem zip_end {a b : Type} {xs : List a} {ys : List b} {vs ws : List V} (h : vs.length = xs.length) (h2 : ws.length = ys.length) : (xs.zip ys).drop (min vs.length ws.length) = [] := by
  rw [h, h2, ← List.length_zip, List.drop_length]
theorem comp_lenZ {a b : Type} {w vs ws : List V} {xs : List a} {ys : List b} {i : Nat} (la : w.length ≤ i) (hi : i < min vs.length ws.length) (h : vs.length = xs.length) (h2 : ws.length = ys.length) (c : (xs.zip ys).length < 16777216) : w.length < sizeLine := by
  rw [List.length_zip, ← h, ← h2] at c
  exact lt_line (by omega)
section
variable {X : Cx} {K : PySem.W.Frag}
theorem cr_sumK (hc : X.calm = true) (h : X.K = K) : CallR X (.builtin "sum") (rSum K) := by rw [← h]; exact cr_sum hc
end
end PG

set_option Elab.async false
set_option linter.all false
set_option maxRecDepth 100000
set_option maxHeartbeats 4000000
namespace PG
open PySem PySem.Spec PyProof.Rows L2
open PySem.W (T3 T4 Datum DatumOrd Holds HoldAll EachIs)
/-! ### sums: ("number", n), (word, n), (word,), (word, a, b) -/
inductive Sm where
  | num (w : Str) (n : Int)
  | nam (w : Str)
  | two (w : Str) (a b : Sm)
def Sm.d : Sm → PyData
  | .num w n => .tuple [.str w, .int n]
  | .nam w => .tuple [.str w]
  | .two w a b => .tuple [.str w, a.d, b.d]
instance : Py Sm := ⟨Sm.d⟩
def Sm.word : Sm → Str
  | .num w _ => w
  | .nam w => w
  | .two w _ _ => w
def Sm.int? : Sm → Option Int
  | .num _ n => some n
  | _ => none
def Sm.two? : Sm → Option (Sm × Sm)
  | .two _ a b => some (a, b)
  | _ => none
section
variable {F : Hp} {v : V} {p : Addr} {x : Sm}
theorem R.sm_ (h : R F v x) : ∃ p ws, v = .ref p ∧ F p = some (.tup (V.str x.word :: ws)) := by
  cases x with
  | num w n =>
    obtain ⟨p, v1, v2, e, hp, h1, h2⟩ := R.t2_ (show R (a := Str × Int) F v (w, n) from h)
    rw [R.str_ h1] at hp
    exact ⟨p, [v2], e, hp⟩
  | nam w =>
    have h' : Rep F v (.tuple [.str w]) := h
    cases h' with
    | tup ha hs =>
      cases hs with
      | cons h1 hs =>
        cases hs
        cases h1
        exact ⟨_, _, rfl, ha⟩
  | two w a b =>
    obtain ⟨p, v1, v2, v3, e, hp, h1, h2, h3⟩ := R.t3_ (show R (a := T3 Str Sm Sm) F v ⟨w, a, b⟩ from h)
    rw [R.str_ h1] at hp
    exact ⟨p, [v2, v3], e, hp⟩
theorem R.sm_int {n : Int} (h : R F v x) (e : x.int? = some n) : ∃ p w, v = .ref p ∧ F p = some (.tup [V.str w, V.int n]) := by
  cases x with
  | num w m =>
    obtain ⟨p, v1, v2, e1, hp, h1, h2⟩ := R.t2_ (show R (a := Str × Int) F v (w, m) from h)
    rw [R.str_ h1, R.int_ h2] at hp
    have e : some m = some n := e
    cases e
    exact ⟨p, w, e1, hp⟩
  | nam w => cases e
  | two w a b => cases e
theorem R.sm_two {q : Sm × Sm} (h : R F v x) (e : x.two? = some q) : ∃ p w va vb, v = .ref p ∧ F p = some (.tup [V.str w, va, vb]) ∧ R F va q.1 ∧ R F vb q.2 := by
  cases x with
  | num w m => cases e
  | nam w => cases e
  | two w a b =>
    obtain ⟨p, v1, v2, v3, e1, hp, h1, h2, h3⟩ := R.t3_ (show R (a := T3 Str Sm Sm) F v ⟨w, a, b⟩ from h)
    rw [R.str_ h1] at hp
    have e : some (a, b) = some q := e
    cases e
    exact ⟨p, w, v2, v3, e1, hp, h2, h3⟩
theorem R.of_num {q : Str × Int} (h : R F v q) : R F v (Sm.num q.1 q.2) := h
theorem R.of_two {q : T3 Str Sm Sm} (h : R F v q) : R F v (Sm.two q.a q.b q.c) := h
theorem R.of_nam {w : Str} (h : F p = some (.tup [V.str w])) : R F (.ref p) (Sm.nam w) := Rep.tup h (.cons (.str w) .nil)
end
/-! ### a whole number or a list of such -/
inductive IL where
  | i (n : Int)
  | l (xs : List Int)
instance : Py IL := ⟨fun
  | .i n => Py.toD n
  | .l xs => Py.toD xs⟩
def IL.i? : IL → Option Int
  | .i n => some n
  | _ => none
def IL.l? : IL → Option (List Int)
  | .l xs => some xs
  | _ => none
section
variable {F : Hp} {v : V}
theorem R.il_i {x : IL} {n : Int} (h : R F v x) (e : x.i? = some n) : R F v n := by
  cases x with
  | i m => have e : some m = some n := e; cases e; exact h
  | l xs => cases e
theorem R.il_l {x : IL} {xs : List Int} (h : R F v x) (e : x.l? = some xs) : R F v xs := by
  cases x with
  | i m => cases e
  | l ys => have e : some ys = some xs := e; cases e; exact h
theorem R.of_i {n : Int} (h : R F v n) : R F v (IL.i n) := h
theorem R.of_l {xs : List Int} (h : R F v xs) : R F v (IL.l xs) := h
end
section
variable {β : Type} [Py β] {F : Hp}
def mergeDS (xs : List (Str × β)) : List (Str × β) := xs.foldl (fun acc p => dPut acc p.1 p.2) []
theorem merge_rdS {kvs : List (Key × V)} {xs : List (Str × β)} (hs : RD F kvs xs) : ∀ {acc : List (Key × V)} {ac : List (Str × β)}, RD F acc ac → RD F (mergeK acc kvs) (xs.foldl (fun acc p => dPut acc p.1 p.2) ac) := by
  induction hs with
  | nil => intro acc ac h; exact h
  | @cons k v y kvs xs hv _ ih =>
    intro acc ac h
    exact ih (h.put k hv)
end
section
variable {X : Cx} {K : PySem.W.Frag} {pos : Pos}
theorem slTupK (h : X.K = K) : SlR X (rSlT K) := by rw [← h]; exact sl_tup
theorem pgLstK (h : X.K = K) {es : List Expr} {k : Nat} {t : TGs} {n : Nat} (hc : X.calm = true) (hp : PGs X es t)
    (hn : (assignEach es X.env).length = n := by rfl) (hst : (assignEach es X.env).findIdx? (·.1) = none := by rfl) : PG X (.Tuple es k pos) (gLst K n t) := by rw [← h]; exact pg_lst hc hp hn hst
end
theorem RL.two {a : Type} [Py a] {F : Hp} {vs : List V} {xs : List a} (h : RL F vs xs) (e : xs.length = 2) : ∃ v1 v2 x1 x2, vs = [v1, v2] ∧ xs = [x1, x2] ∧ R F v1 x1 ∧ R F v2 x2 := by
  match xs, e with
  | [x1, x2], _ =>
    obtain ⟨w, ws, rfl, h1, h2⟩ := RL.cons_ h
    obtain ⟨w2, ws2, rfl, h3, h4⟩ := RL.cons_ h2
    rw [RL.nil_ h4]
    exact ⟨w, w2, x1, x2, rfl, rfl, h1, h3⟩
/-- a list of just two -/
def two2 {a : Type} (xs : List a) : M (a × a) := match xs with
  | [x, y] => .ok (x, y)
  | _ => bad
theorem wp_two2 {a b : Type} {Q : a → Prop} {E : String → Prop} {xs : List b} {k : b × b → M a} (h : wp (two2 xs >>= k) Q E) : ∃ x y, xs = [x, y] ∧ wp (k (x, y)) Q E := by
  match xs, h with
  | [x, y], h => exact ⟨x, y, rfl, h⟩
  | [], h => exact h.elim
  | [_], h => exact h.elim
  | _ :: _ :: _ :: _, h => exact h.elim
theorem sl3 (a b c : V) : ¬ (HT.sIx [a, b, c].length 0 (some (1 : Int)) = 0 ∧ HT.sIx [a, b, c].length [a, b, c].length none = [a, b, c].length) := fun h => absurd h.1 (by show ¬ (HT.sIx 3 0 (some (1 : Int)) = 0); decide)
theorem intB {X : Cx} : CallR X (.type "int") (fun xs H Q => ∃ k, xs = [.bl k] ∧ Q (.int (if k then 1 else 0)) H) := fun pins s σ H xs us Q I r h => call_int1 pins s σ H xs us Q I r (.inr h)
theorem atI0 {a : Type} (x : a) (xs : List a) : L2.atI (x :: xs) (0 : Int) = some x := by
  unfold L2.atI ixN
  rw [if_pos (by omega), if_pos (by rw [List.length_cons]; omega)]
  rfl
end PG

set_option Elab.async false
set_option linter.all false
set_option maxRecDepth 100000
set_option maxHeartbeats 4000000
/-! Plain mathematics over the monad M: no program in sight. -/
namespace PG
open PySem L2
open PySem.W (T3 T4 Datum DatumOrd)
section
variable {a b s i : Type}
theorem ok_b (x : a) (k : a → M b) : (Except.ok x >>= k) = k x := rfl
theorem okP_b (x : a) (k : a → M b) : ((Except.ok x : M a) >>= k) = k x := rfl
theorem ret_b (x : a) (k : a → M b) : (ret x >>= k) = k x := rfl
theorem chk_ok {c : Prop} [Decidable c] (h : c) : chk c = .ok () := by unfold chk; rw [if_pos h]
theorem chk_b {c : Prop} [Decidable c] (h : c) (k : Unit → M b) : (chk c >>= k) = k () := by rw [chk_ok h]; rfl
theorem opt_b {o : Option a} {x : a} (h : o = some x) (k : a → M b) : (opt o >>= k) = k x := by rw [h]; rfl
theorem bind_ok {m : M a} {x : a} (h : m = .ok x) (k : a → M b) : (m >>= k) = k x := by rw [h]; rfl
theorem appL_ok {xs : List a} {y : a} (h : xs.length < 16777216) : appL xs y = .ok (xs ++ [y]) := by unfold appL; rw [if_pos h]
theorem ixN_nat {n : Nat} {j : Int} (h0 : 0 ≤ j) (h : j < n) : ixN n j = some j.toNat := by unfold ixN; rw [if_pos h0, if_pos h]
theorem atI_of {xs : List a} {j : Int} {x : a} (h0 : 0 ≤ j) (h : xs[j.toNat]? = some x) : L2.atI xs j = some x := by
  have hl := (List.getElem?_eq_some_iff.mp h).1
  unfold L2.atI
  rw [ixN_nat h0 (by omega)]
  exact h
theorem atI_some {xs : List a} {j : Int} (h0 : 0 ≤ j) (h : j < xs.length) : ∃ x, L2.atI xs j = some x ∧ xs[j.toNat]? = some x := by
  have hl : j.toNat < xs.length := by omega
  exact ⟨xs[j.toNat], atI_of h0 (List.getElem?_eq_getElem hl), List.getElem?_eq_getElem hl⟩
theorem setI_ok {xs : List a} {j : Int} {y : a} (h0 : 0 ≤ j) (h : j < xs.length) : setI xs j y = .ok (xs.set j.toNat y) := by unfold setI; rw [ixN_nat h0 h]
theorem popI_ok {xs : List a} {j : Int} {y : a} (h0 : 0 ≤ j) (h : xs[j.toNat]? = some y) (hl : xs.length < 16777216) : popI xs j = .ok (y, xs.eraseIdx j.toNat) := by
  have h1 := (List.getElem?_eq_some_iff.mp h).1
  unfold popI
  rw [if_pos hl, ixN_nat h0 (by omega)]
  show (match xs[j.toNat]? with
    | some y => (Except.ok (y, xs.eraseIdx j.toNat) : M _)
    | none => bad) = _
  rw [h]
/-- loops by an invariant over the items gone through -/
theorem loopN_inv {f : i → s → M s} (P : List i → s → Prop) : ∀ {xs pre : List i} {x : s}, P pre x → (∀ pre y ys x, xs ++ [] = xs → P pre x → (∃ q, q ++ y :: ys = pre ++ y :: ys) → ∃ x', f y x = .ok x' ∧ P (pre ++ [y]) x') → ∃ x', loopN f xs x = .ok x' ∧ P (pre ++ xs) x' := by
  intro xs
  induction xs with
  | nil => intro pre x h _; exact ⟨x, rfl, by rw [List.append_nil]; exact h⟩
  | cons y ys ih =>
    intro pre x h hs
    obtain ⟨x1, e1, h1⟩ := hs pre y ys x (List.append_nil _) h ⟨pre, rfl⟩
    obtain ⟨x2, e2, h2⟩ := ih (pre := pre ++ [y]) h1 fun pre y ys x _ hp hq => hs pre y ys x (List.append_nil _) hp hq
    refine ⟨x2, ?_, by rw [List.append_assoc] at h2; exact h2⟩
    show (f y x >>= fun x' => loopN f ys x') = _
    rw [e1]
    exact e2
/-- .. with what is known of the items -/
theorem loopN_run {f : i → s → M s} {all : List i} (P : List i → s → Prop) {x : s} (h : P [] x) (hs : ∀ pre y post x, all = pre ++ y :: post → P pre x → ∃ x', f y x = .ok x' ∧ P (pre ++ [y]) x') : ∃ x', loopN f all x = .ok x' ∧ P all x' := by
  have go : ∀ (xs pre : List i) (x : s), all = pre ++ xs → P pre x → ∃ x', loopN f xs x = .ok x' ∧ P (pre ++ xs) x' := by
    intro xs
    induction xs with
    | nil => intro pre x _ h; exact ⟨x, rfl, by rw [List.append_nil]; exact h⟩
    | cons y ys ih =>
      intro pre x e h
      obtain ⟨x1, e1, h1⟩ := hs pre y ys x e h
      obtain ⟨x2, e2, h2⟩ := ih (pre ++ [y]) x1 (by rw [List.append_assoc]; exact e) h1
      refine ⟨x2, ?_, by rw [List.append_assoc] at h2; exact h2⟩
      show (f y x >>= fun x' => loopN f ys x') = _
      rw [e1]
      exact e2
  exact go all [] x rfl h
/-- a loop that goes on at each item -/
theorem loopM_run {r : Type} {f : i → s → M (Fl s r)} {all : List i} (P : List i → s → Prop) {x : s} (h : P [] x) (hs : ∀ pre y post x, all = pre ++ y :: post → P pre x → ∃ x', f y x = .ok (.nx x') ∧ P (pre ++ [y]) x') : ∃ x', loopM f all x = .ok (.nx x') ∧ P all x' := by
  have go : ∀ (xs pre : List i) (x : s), all = pre ++ xs → P pre x → ∃ x', loopM f xs x = .ok (.nx x') ∧ P (pre ++ xs) x' := by
    intro xs
    induction xs with
    | nil => intro pre x _ h; exact ⟨x, rfl, by rw [List.append_nil]; exact h⟩
    | cons y ys ih =>
      intro pre x e h
      obtain ⟨x1, e1, h1⟩ := hs pre y ys x e h
      obtain ⟨x2, e2, h2⟩ := ih (pre ++ [y]) x1 (by rw [List.append_assoc]; exact e) h1
      refine ⟨x2, ?_, by rw [List.append_assoc] at h2; exact h2⟩
      show (f y x >>= fun q => match q with
        | .nx x' => loopM f ys x'
        | .rt z => .ok (.rt z)) = _
      rw [e1]
      exact e2
  exact go all [] x rfl h
/-- .. that has no state -/
theorem loopM_all {r : Type} {f : i → Unit → M (Fl Unit r)} {all : List i} (hs : ∀ y ∈ all, f y () = .ok (.nx ())) : loopM f all () = .ok (.nx ()) := by
  obtain ⟨x, e, _⟩ := loopM_run (f := f) (all := all) (fun _ _ => True) (x := ()) trivial fun pre y post x e _ => ⟨(), by cases x; exact hs y (by rw [e]; simp), trivial⟩
  exact e
theorem compX_run {c : Type} {f : i → s → M (Option c × s)} {all : List i} (P : List i → List c → s → Prop) {x : s} (h : P [] [] x)
    (hs : ∀ pre y post acc x, all = pre ++ y :: post → P pre acc x → ∃ o x', f y x = .ok (o, x') ∧ P (pre ++ [y]) (match o with
      | some z => acc ++ [z]
      | none => acc) x') : ∃ acc x', compX f all [] x = .ok (acc, x') ∧ P all acc x' := by
  have go : ∀ (xs pre : List i) (acc : List c) (x : s), all = pre ++ xs → P pre acc x → ∃ acc' x', compX f xs acc x = .ok (acc', x') ∧ P (pre ++ xs) acc' x' := by
    intro xs
    induction xs with
    | nil => intro pre acc x _ h; exact ⟨acc, x, rfl, by rw [List.append_nil]; exact h⟩
    | cons y ys ih =>
      intro pre acc x e h
      obtain ⟨o, x1, e1, h1⟩ := hs pre y ys acc x e h
      obtain ⟨acc2, x2, e2, h2⟩ := ih (pre ++ [y]) _ x1 (by rw [List.append_assoc]; exact e) h1
      refine ⟨acc2, x2, ?_, by rw [List.append_assoc] at h2; exact h2⟩
      show (nox (f y x) >>= fun p => compX f ys (match p.1 with
        | some z => acc ++ [z]
        | none => acc) p.2) = _
      rw [e1]
      exact e2
  exact go all [] [] x rfl h
theorem compS_run {c : Type} {f : i → s → M (Option c × s)} {all : List i} (hl : all.length < 16777216) (P : List i → List c → s → Prop) {x : s} (h : P [] [] x)
    (hs : ∀ pre y post acc x, all = pre ++ y :: post → P pre acc x → ∃ o x', f y x = .ok (o, x') ∧ P (pre ++ [y]) (match o with
      | some z => acc ++ [z]
      | none => acc) x') : ∃ acc x', compS f all x = .ok (acc, x') ∧ P all acc x' := by
  unfold compS
  rw [chk_b hl]
  exact compX_run P h hs
/-- a plain map with a test -/
theorem compS_pure {c : Type} {f : i → Unit → M (Option c × Unit)} {all : List i} (g : i → Option c) (hl : all.length < 16777216) (hs : ∀ y ∈ all, f y () = .ok (g y, ())) : compS f all () = .ok (all.filterMap g, ()) := by
  obtain ⟨acc, x, e, h⟩ := compS_run (f := f) (all := all) hl (fun pre acc _ => acc = pre.filterMap g) (x := ()) rfl fun pre y post acc x e h => by
    refine ⟨g y, (), by cases x; exact hs y (by rw [e]; simp), ?_⟩
    rw [h, List.filterMap_append]
    cases e2 : g y with
    | none => simp [e2]
    | some z => simp [e2]
  rw [e, h]
end

/-! ### sorted lists -/
section
variable {a : Type}
/-- two sorted lists of the same things are one -/
theorem perm_sorted_eq {le : a → a → Bool} (anti : ∀ x y, le x y = true → le y x = true → x = y) : ∀ {xs ys : List a}, xs.Perm ys → xs.Pairwise (fun x y => le x y = true) → ys.Pairwise (fun x y => le x y = true) → xs = ys := by
  intro xs
  induction xs with
  | nil => intro ys h _ _; exact (List.nil_perm.mp h).symm
  | cons x xs ih =>
    intro ys h hx hy
    cases ys with
    | nil => exact absurd h.length_eq (by simp)
    | cons y ys =>
      rw [List.pairwise_cons] at hx hy
      have e : x = y := by
        have m1 : x ∈ y :: ys := h.mem_iff.mp List.mem_cons_self
        have m2 : y ∈ x :: xs := h.mem_iff.mpr List.mem_cons_self
        rcases List.mem_cons.mp m1 with r | r
        · exact r
        · rcases List.mem_cons.mp m2 with q | q
          · exact q.symm
          · exact anti x y (hx.1 y q) (hy.1 x r)
      subst e
      rw [ih (List.Perm.cons_inv h) hx.2 hy.2]
class LeOk (a : Type) [DecidableEq a] [DatumOrd a] : Prop where
  tr : ∀ x y z : a, leT x y = true → leT y z = true → leT x z = true
  tot : ∀ x y : a, (leT x y || leT y x) = true
  anti : ∀ x y : a, leT x y = true → leT y x = true → x = y
theorem leT_int (x y : Int) : leT x y = decide (x ≤ y) := by
  show (!decide (y < x)) = decide (x ≤ y)
  by_cases h : y < x
  · have : ¬ x ≤ y := by omega
    simp [h, this]
  · have : x ≤ y := by omega
    simp [h, this]
instance : LeOk Int where
  tr x y z h1 h2 := by
    rw [leT_int, decide_eq_true_eq] at h1 h2 ⊢
    omega
  tot x y := by
    rw [leT_int, leT_int, Bool.or_eq_true, decide_eq_true_eq, decide_eq_true_eq]
    omega
  anti x y h1 h2 := by
    rw [leT_int, decide_eq_true_eq] at h1 h2
    omega
theorem leT_p (x y : Int × Int) : leT x y = decide (x.1 < y.1 ∨ (x.1 = y.1 ∧ x.2 ≤ y.2)) := by
  show (!(if y.1 = x.1 then decide (y.2 < x.2) else decide (y.1 < x.1))) = _
  by_cases h : y.1 = x.1
  · rw [if_pos h]
    by_cases h2 : y.2 < x.2
    · have : ¬ (x.1 < y.1 ∨ (x.1 = y.1 ∧ x.2 ≤ y.2)) := by omega
      simp [h2, this]
    · have : (x.1 < y.1 ∨ (x.1 = y.1 ∧ x.2 ≤ y.2)) := by omega
      simp [h2, this]
  · rw [if_neg h]
    by_cases h2 : y.1 < x.1
    · have : ¬ (x.1 < y.1 ∨ (x.1 = y.1 ∧ x.2 ≤ y.2)) := by omega
      simp [h2, this]
    · have : (x.1 < y.1 ∨ (x.1 = y.1 ∧ x.2 ≤ y.2)) := by omega
      simp [h2, this]
instance : LeOk (Int × Int) where
  tr x y z h1 h2 := by
    rw [leT_p, decide_eq_true_eq] at h1 h2 ⊢
    omega
  tot x y := by
    rw [leT_p, leT_p, Bool.or_eq_true, decide_eq_true_eq, decide_eq_true_eq]
    omega
  anti x y h1 h2 := by
    rw [leT_p, decide_eq_true_eq] at h1 h2
    exact Prod.ext (by omega) (by omega)
theorem leT_3 (x y : T3 Int Int Int) : leT x y = decide (x.a < y.a ∨ (x.a = y.a ∧ (x.b < y.b ∨ (x.b = y.b ∧ x.c ≤ y.c)))) := by
  show (!DatumOrd.lt y x) = _
  have e : DatumOrd.lt y x = decide (y.a < x.a ∨ (y.a = x.a ∧ (y.b < x.b ∨ (y.b = x.b ∧ y.c < x.c)))) := by
    rw [Bool.eq_iff_iff, decide_eq_true_eq]
    show (if y.a = x.a then (if y.b = x.b then decide (y.c < x.c) else decide (y.b < x.b)) else decide (y.a < x.a)) = true ↔ _
    by_cases h : y.a = x.a
    · rw [if_pos h]
      by_cases h2 : y.b = x.b
      · rw [if_pos h2, decide_eq_true_eq]; omega
      · rw [if_neg h2, decide_eq_true_eq]; omega
    · rw [if_neg h, decide_eq_true_eq]; omega
  rw [e, Bool.eq_iff_iff, Bool.not_eq_true', decide_eq_false_iff_not, decide_eq_true_eq]
  omega
instance : LeOk (T3 Int Int Int) where
  tr x y z h1 h2 := by
    rw [leT_3, decide_eq_true_eq] at h1 h2 ⊢
    omega
  tot x y := by
    rw [leT_3, leT_3, Bool.or_eq_true, decide_eq_true_eq, decide_eq_true_eq]
    omega
  anti x y h1 h2 := by
    rw [leT_3, decide_eq_true_eq] at h1 h2
    exact PySem.W.T3.same (by omega) (by omega) (by omega)
variable [DecidableEq a] [DatumOrd a] [LeOk a]
theorem sortT_perm (xs : List a) : (sortT xs).Perm xs := List.mergeSort_perm xs _
theorem sortT_sorted (xs : List a) : (sortT xs).Pairwise (fun x y => leT x y = true) := List.pairwise_mergeSort (fun x y z => LeOk.tr x y z) (fun x y => LeOk.tot x y) xs
theorem sortT_eq {xs ys : List a} (h : xs.Perm ys) : sortT xs = sortT ys :=
  perm_sorted_eq LeOk.anti ((sortT_perm xs).trans (h.trans (sortT_perm ys).symm)) (sortT_sorted xs) (sortT_sorted ys)
theorem sortT_id {xs : List a} (h : xs.Pairwise (fun x y => leT x y = true)) : sortT xs = xs := perm_sorted_eq LeOk.anti (sortT_perm xs) (sortT_sorted xs) h
theorem sortT_idem (xs : List a) : sortT (sortT xs) = sortT xs := sortT_id (sortT_sorted xs)
theorem sortT_len (xs : List a) : (sortT xs).length = xs.length := (sortT_perm xs).length_eq
theorem sortT_mem {xs : List a} {x : a} : x ∈ sortT xs ↔ x ∈ xs := (sortT_perm xs).mem_iff
end
/-! ### numbers -/
theorem cdivW {i j : Int} (h : 0 < j) (h2 : j ≤ 10 ^ 40) : CDivW i j := by
  have h3 : j.natAbs ≤ 10 ^ 40 := by omega
  exact wide_div (b := 200) h (Nat.lt_of_le_of_lt h3 (by decide)) (by decide) (by decide)
theorem cmulW {i j : Int} (h1 : i.natAbs < 2 ^ 100000) (h2 : j.natAbs < 2 ^ 100000) : CMulW i j := wide_mul h1 h2 (by decide) (by decide) (by decide)

theorem erase_perm {a : Type} : ∀ {l : List a} {j : Nat} (h : j < l.length), (l[j] :: l.eraseIdx j).Perm l
  | x :: l, 0, _ => List.Perm.refl _
  | x :: l, j + 1, h => by
    have h' : j < l.length := by simpa using h
    show (l[j] :: x :: l.eraseIdx j).Perm (x :: l)
    exact (List.Perm.swap _ _ _).trans (List.Perm.cons _ (erase_perm h'))

/-! ### trees -/
abbrev Tie := T3 Int Int Int
abbrev Tr := List Int × List Tie
def tieOf (p q c : Int) : Tie := if p ≤ q then ⟨p, q, c⟩ else ⟨q, p, c⟩
/-- place by place, each new one tied to one that is there -/
inductive Grown : List Int → List Tie → Prop
  | one (p : Int) : Grown [p] []
  | more {ps : List Int} {ts : List Tie} (q p c : Int) : Grown ps ts → q ∈ ps → p ∉ ps → Grown (ps ++ [p]) (ts ++ [tieOf p q c])
theorem tieOf_lt {p q c : Int} (h : p ≠ q) : (tieOf p q c).a < (tieOf p q c).b ∧ ((tieOf p q c).a = p ∧ (tieOf p q c).b = q ∨ (tieOf p q c).a = q ∧ (tieOf p q c).b = p) ∧ (tieOf p q c).c = c := by
  unfold tieOf
  by_cases h1 : p ≤ q
  · rw [if_pos h1]; exact ⟨by show p < q; omega, .inl ⟨rfl, rfl⟩, rfl⟩
  · rw [if_neg h1]; exact ⟨by show q < p; omega, .inr ⟨rfl, rfl⟩, rfl⟩
theorem Grown.in {ps : List Int} {ts : List Tie} (g : Grown ps ts) : ∀ t ∈ ts, t.a ∈ ps ∧ t.b ∈ ps ∧ t.a < t.b := by
  induction g with
  | one p => intro t h; cases h
  | @more ps ts q p c g hq hp ih =>
    intro t h
    rcases List.mem_append.mp h with h | h
    · obtain ⟨h1, h2, h3⟩ := ih t h
      exact ⟨List.mem_append_left _ h1, List.mem_append_left _ h2, h3⟩
    · have e := List.mem_singleton.mp h
      subst e
      have hpq : p ≠ q := fun e => hp (e ▸ hq)
      obtain ⟨l, hab, _⟩ := tieOf_lt (c := c) hpq
      have mp : p ∈ ps ++ [p] := by simp
      have mq : q ∈ ps ++ [p] := List.mem_append_left _ hq
      rcases hab with ⟨h1, h2⟩ | ⟨h1, h2⟩
      · exact ⟨by rw [h1]; exact mp, by rw [h2]; exact mq, l⟩
      · exact ⟨by rw [h1]; exact mq, by rw [h2]; exact mp, l⟩
theorem Grown.len {ps : List Int} {ts : List Tie} (g : Grown ps ts) : ps.length = ts.length + 1 := by
  induction g with
  | one p => rfl
  | more q p c g hq hp ih => rw [List.length_append, List.length_append, ih]; rfl
theorem Grown.nd {ps : List Int} {ts : List Tie} (g : Grown ps ts) : ps.Nodup := by
  induction g with
  | one p => simp
  | more q p c g hq hp ih => exact List.nodup_append.mpr ⟨ih, by simp, fun x hx y hy e => by rw [List.mem_singleton.mp hy] at e; exact hp (e ▸ hx)⟩
/-- a tree: its worths, its ties sorted -/
structure TreeOk (t : Tr) : Prop where
  ex : ∃ ps ts, Grown ps ts ∧ ps.Perm (rangeL 0 (t.1.length : Int)) ∧ t.2 = sortT ts
theorem TreeOk.pos {t : Tr} (h : TreeOk t) : 1 ≤ t.1.length := by
  obtain ⟨ps, ts, g, p, e⟩ := h.ex
  have h1 := p.length_eq
  rw [rangeL_length] at h1
  have := g.len
  omega
theorem TreeOk.len {t : Tr} (h : TreeOk t) : t.1.length = t.2.length + 1 := by
  obtain ⟨ps, ts, g, p, e⟩ := h.ex
  have h1 := p.length_eq
  rw [rangeL_length] at h1
  have := g.len
  rw [e, sortT_len]
  omega
theorem rangeL_mem' {lo hi x : Int} : x ∈ rangeL lo hi ↔ lo ≤ x ∧ x < hi := by
  unfold rangeL
  rw [List.mem_map]
  constructor
  · rintro ⟨j, hj, rfl⟩
    have := List.mem_range.mp hj
    omega
  · rintro ⟨h1, h2⟩
    exact ⟨(x - lo).toNat, List.mem_range.mpr (by omega), by omega⟩
theorem TreeOk.tie {t : Tr} (h : TreeOk t) : ∀ x ∈ t.2, 0 ≤ x.a ∧ x.a < x.b ∧ x.b < (t.1.length : Int) := by
  obtain ⟨ps, ts, g, p, e⟩ := h.ex
  intro x hx
  rw [e, sortT_mem] at hx
  obtain ⟨h1, h2, h3⟩ := g.in x hx
  have a1 := rangeL_mem'.mp (p.mem_iff.mp h1)
  have a2 := rangeL_mem'.mp (p.mem_iff.mp h2)
  exact ⟨a1.1, h3, a2.2⟩
theorem TreeOk.sorted {t : Tr} (h : TreeOk t) : sortT t.2 = t.2 := by
  obtain ⟨ps, ts, g, p, e⟩ := h.ex
  rw [e, sortT_idem]
theorem sort2 (x y : Int) : sortT [x, y] = if x ≤ y then [x, y] else [y, x] := by
  by_cases h : x ≤ y
  · rw [if_pos h]
    exact sortT_id (by simp [leT_int, h])
  · rw [if_neg h]
    have e : sortT [x, y] = sortT [y, x] := sortT_eq (List.Perm.swap _ _ _)
    rw [e]
    exact sortT_id (by simp [leT_int]; omega)

theorem fm_congr {a b : Type} {f g : a → Option b} : ∀ {l : List a}, (∀ x ∈ l, f x = g x) → l.filterMap f = l.filterMap g
  | [], _ => rfl
  | x :: l, h => by
    have h1 := h x List.mem_cons_self
    have h2 := fm_congr (l := l) fun y hy => h y (List.mem_cons_of_mem _ hy)
    rw [List.filterMap_cons, List.filterMap_cons, h1, h2]
end PG

set_option Elab.async false
set_option linter.all false
set_option maxRecDepth 100000
namespace G
open PySem PySem.Spec PyProof.Rows L2 PG
open PySem.W (T3 T4 Datum DatumOrd)
def top (i : Nat) : Stmt := PySem.Challenge.pw_everyseat_k10_sums_at.main.body.getD i (.Pass ⟨0, 0, 0, 0⟩)
structure Nb (mg : Str → Option Value) : Prop where
  b_bool : mg "bool" = none
  b_int : mg "int" = none
  b_isinstance : mg "isinstance" = none
  b_len : mg "len" = none
  b_max : mg "max" = none
  b_min : mg "min" = none
  b_range : mg "range" = none
  b_sorted : mg "sorted" = none
section
variable {P : Program} {w : World} {K : PySem.W.Frag} {mg : Str → Option Value} {base : Heap}
abbrev s_sum_at : Stmt := top 1
theorem sc_sum_at : FnScope ["sum_told", "own", "tie", "so", "more", "word", "one", "other", "part"] ["sum_told", "own", "tie", "so", "more"] (defScope s_sum_at) := ⟨rfl, rfl, rfl, by decide +kernel, rfl, by decide +kernel, by decide +kernel⟩
def m_sum_at : Nat → Sm → Int → Int → (List Int) → (List Int) → M (Int)
  | 0, _, _, _, _, _ => bad
  | k_ + 1, x_sum_told, x_own, x_tie, x_so, x_more =>
    if (Sm.word x_sum_told) = ("number" : Str) then (
    opt (Sm.int? x_sum_told) >>= fun y6 =>
    .ok y6)
    else (
    if (Sm.word x_sum_told) = ("own" : Str) then (
    .ok x_own)
    else (
    if (Sm.word x_sum_told) = ("tie" : Str) then (
    .ok x_tie)
    else (
    if (Sm.word x_sum_told) = ("so" : Str) then (
    opt (Sm.int? x_sum_told) >>= fun y15 =>
    opt (atI x_so y15) >>= fun y26 =>
    .ok y26)
    else (
    if (Sm.word x_sum_told) = ("more" : Str) then (
    opt (Sm.int? x_sum_told) >>= fun y32 =>
    opt (atI x_more y32) >>= fun y43 =>
    .ok y43)
    else (
    opt (Sm.two? x_sum_told) >>= fun y48 =>
    compS (fun (y65 : Sm) (st82 : Unit) =>
    m_sum_at k_ y65 x_own x_tie x_so x_more >>= fun r88 =>
    .ok (some r88, ())) ([y48.1, y48.2]) () >>= fun q105 =>
    two2 q105.1 >>= fun (x116, y117) =>
    if (Sm.word x_sum_told) = ("plus" : Str) then (
    .ok (x116 + y117))
    else (
    if (Sm.word x_sum_told) = ("less" : Str) then (
    .ok (x116 - y117))
    else (
    if (Sm.word x_sum_told) = ("times" : Str) then (
    chk (CMulW x116 y117) >>= fun _ =>
    .ok (x116 * y117))
    else (
    if (Sm.word x_sum_told) = ("most" : Str) then (
    .ok (if y117 > x116 then y117 else x116))
    else (
    .ok (if y117 < x116 then y117 else x116))))))))))
def sp_sum_at (k_ : Nat) (mg : Str → Option Value) : Sp := fun vs H Q E => ∃ (F : Hp) (v_sum_told : V) (x_sum_told : Sm) (x_own : Int) (x_tie : Int) (v_so : V) (x_so : (List Int)) (v_more : V) (x_more : (List Int)), vs = [v_sum_told, V.int x_own, V.int x_tie, v_so, v_more] ∧ Pre F [] H ∧ R (a := Sm) F v_sum_told x_sum_told ∧ R (a := (List Int)) F v_so x_so ∧ R (a := (List Int)) F v_more x_more ∧
  wp (m_sum_at k_ x_sum_told x_own x_tie x_so x_more) (fun r => ∀ (F' H' : Hp), Gr [] F H F' H' → Q (V.int r) H')
  (fun n => ∀ (C : Addr) (H' : Hp), mg (Str.ofString n) = some (.ref C) → Kp [] H H' → E (.ref C) none H')
set_option maxHeartbeats 2000000 in
theorem ok_sum_at (nb : Nb mg) (D : Df K mg "sum_at" "sum_at" s_sum_at ["sum_told", "own", "tie", "so", "more"]) : ∀ k_ : Nat, Ca P w K mg base "sum_at" (k_ + 1) ["sum_told", "own", "tie", "so", "more"] (sp_sum_at k_ mg) := by
  intro k_
  induction k_ with
  | zero =>
    refine Ca.mk' D sc_sum_at (fun vs H Q E h => ?_) (fun q_ f_ cdv A outer s H vs Q E hr h => ?_)
    · obtain ⟨F, _, _, _, _, _, _, _, _, rfl, _⟩ := h
      rfl
    · obtain ⟨F, _, _, _, _, _, _, _, _, rfl, _, _, _, _, hk⟩ := h
      exact hk.elim
  | succ k_ ih_ =>
    have C_sum_at := ih_
    obtain ⟨fa_sum_at, fd_sum_at, G_sum_at, M_sum_at, K_sum_at, B_sum_at⟩ := C_sum_at.ex
    refine Ca.mk' D sc_sum_at (fun vs H Q E h => ?_) (fun q_ f_ cdv A outer s H vs Q E hr h => ?_)
    · obtain ⟨F, _, _, _, _, _, _, _, _, rfl, _⟩ := h
      rfl
    · obtain ⟨F, v_sum_told, x_sum_told, x_own, x_tie, v_so, x_so, v_more, x_more, rfl, P0, f_sum_told, f_so, f_more, hk⟩ := h
      have nd := sc_sum_at.nd
      have hu64 := hr.units
      have hu128 := hu128_of hr
      have O := P0.start
      refine ⟨_, (pss_cons (ps_set (i := 5) nd rfl (Or.inl rfl) (pe_ix (ixTupK (K := K) rfl) (pv 0) pe_int (fun _ _ => rfl)))
  (pss_cons (ps_if (pt_cmpR (op_eqT Str hu64) (pv 5) pe_str (nomark _)) (pss_one (ps_ret (pe_ix (ixTupK (K := K) rfl) (pv 0) pe_int (fun _ _ => rfl)))) pss_nil)
  (pss_cons (ps_if (pt_cmpR (op_eqT Str hu64) (pv 5) pe_str (nomark _)) (pss_one (ps_ret (pv 1))) pss_nil)
  (pss_cons (ps_if (pt_cmpR (op_eqT Str hu64) (pv 5) pe_str (nomark _)) (pss_one (ps_ret (pv 2))) pss_nil)
  (pss_cons (ps_if (pt_cmpR (op_eqT Str hu64) (pv 5) pe_str (nomark _)) (pss_one (ps_ret (pe_ix (ixListK (K := K) rfl) (pv 3) (pe_ix (ixTupK (K := K) rfl) (pv 0) pe_int (fun _ _ => rfl)) (fun _ _ => rfl)))) pss_nil)
  (pss_cons (ps_if (pt_cmpR (op_eqT Str hu64) (pv 5) pe_str (nomark _)) (pss_one (ps_ret (pe_ix (ixListK (K := K) rfl) (pv 4) (pe_ix (ixTupK (K := K) rfl) (pv 0) pe_int (fun _ _ => rfl)) (fun _ _ => rfl)))) pss_nil)
  (pss_cons (ps_asg (pe_lc (own := [("part", 8)]) (g := gName 8) (tt := _) rfl nd (pi_tup (pe_slice (slTupK (K := K) rfl) (pv 0) (po_some pe_int) po_none)) (blkOk_by (own := [("part", 8)]) (N := ["sum_told", "own", "tie", "so", "more", "word", "one", "other", "part"]) (sc := defScope s_sum_at) (by decide +kernel)) (fun _ _ _ _ _ => (pg_name (i := 8) nd rfl (Or.inl rfl))) (fun _ _ _ _ _ => pts_nil) (fun _ _ _ _ _ => (pe_call G_sum_at (hr.mono (by omega)) rfl M_sum_at K_sum_at B_sum_at .nil passL (pa_cons (pv 8) (pa_cons (pv 1) (pa_cons (pv 2) (pa_cons (pv 3) (pa_cons (pv 4) pa_nil)))))))) (pgLstK (K := K) rfl rfl (pgs_cons (pg_name (i := 6) nd rfl (Or.inl rfl)) (pgs_cons (pg_name (i := 7) nd rfl (Or.inl rfl)) pgs_nil))))
  (pss_cons (ps_if (pt_cmpR (op_eqT Str hu64) (pv 5) pe_str (nomark _)) (pss_one (ps_ret (pe_op op_add (pv 6) (pv 7)))) pss_nil)
  (pss_cons (ps_if (pt_cmpR (op_eqT Str hu64) (pv 5) pe_str (nomark _)) (pss_one (ps_ret (pe_op op_sub (pv 6) (pv 7)))) pss_nil)
  (pss_cons (ps_if (pt_cmpR (op_eqT Str hu64) (pv 5) pe_str (nomark _)) (pss_one (ps_ret (pe_op op_mulW (pv 6) (pv 7)))) pss_nil)
  (pss_cons (ps_if (pt_cmpR (op_eqT Str hu64) (pv 5) pe_str (nomark _)) (pss_one (ps_ret (pe_callB (call_max2 rfl) (by rfl) nb.b_max (by decide +kernel) (pa_cons (pv 6) (pa_cons (pv 7) pa_nil))))) pss_nil)
  (pss_one (ps_ret (pe_callB (call_min2 rfl) (by rfl) nb.b_min (by decide +kernel) (pa_cons (pv 6) (pa_cons (pv 7) pa_nil)))))))))))))))), ?_⟩
      obtain ⟨p1, w2, e3, h4⟩ := R.sm_ f_sum_told
      cases e3
      refine ⟨_, rfl, _, _, _, _, rfl, rfl, (SqTF O.s h4), (atI0 _ _), _, rfl, _, _, R.str, R.str, _, rfl, ?_⟩
      refine iteD (fun q5 => ?_) (fun q5 => ?_)
      · have hk := wp_if hk q5
        obtain ⟨y6, e7, hk⟩ := wp_opt hk
        obtain ⟨p8, w9, e10, h11⟩ := R.sm_int f_sum_told e7
        cases e10
        refine ⟨_, rfl, _, _, _, _, rfl, rfl, (SqTF O.s h11), rfl, ?_⟩
        exact hk _ _  O.g 
      · have hk := wp_el hk q5
        refine ⟨_, rfl, _, _, R.str, R.str, _, rfl, ?_⟩
        refine iteD (fun q12 => ?_) (fun q12 => ?_)
        · have hk := wp_if hk q12
          refine ⟨_, rfl, ?_⟩
          exact hk _ _  O.g 
        · have hk := wp_el hk q12
          refine ⟨_, rfl, _, _, R.str, R.str, _, rfl, ?_⟩
          refine iteD (fun q13 => ?_) (fun q13 => ?_)
          · have hk := wp_if hk q13
            refine ⟨_, rfl, ?_⟩
            exact hk _ _  O.g 
          · have hk := wp_el hk q13
            refine ⟨_, rfl, _, _, R.str, R.str, _, rfl, ?_⟩
            refine iteD (fun q14 => ?_) (fun q14 => ?_)
            · have hk := wp_if hk q14
              obtain ⟨y15, e16, hk⟩ := wp_opt hk
              obtain ⟨p17, w18, e19, h20⟩ := R.sm_int f_sum_told e16
              cases e19
              obtain ⟨p21, w22, e23, h24, hl25⟩ := R.lst_ f_so
              cases e23
              obtain ⟨y26, e27, hk⟩ := wp_opt hk
              obtain ⟨w28, e29, r30⟩ := hl25.atI e27
              obtain rfl := R.int_ r30
              refine ⟨_, rfl, _, rfl, _, _, _, _, rfl, rfl, (SqTF O.s h20), rfl, _, _, _, _, rfl, rfl, (SqLF O.s h24), e29, ?_⟩
              exact hk _ _  O.g 
            · have hk := wp_el hk q14
              refine ⟨_, rfl, _, _, R.str, R.str, _, rfl, ?_⟩
              refine iteD (fun q31 => ?_) (fun q31 => ?_)
              · have hk := wp_if hk q31
                obtain ⟨y32, e33, hk⟩ := wp_opt hk
                obtain ⟨p34, w35, e36, h37⟩ := R.sm_int f_sum_told e33
                cases e36
                obtain ⟨p38, w39, e40, h41, hl42⟩ := R.lst_ f_more
                cases e40
                obtain ⟨y43, e44, hk⟩ := wp_opt hk
                obtain ⟨w45, e46, r47⟩ := hl42.atI e44
                obtain rfl := R.int_ r47
                refine ⟨_, rfl, _, rfl, _, _, _, _, rfl, rfl, (SqTF O.s h37), rfl, _, _, _, _, rfl, rfl, (SqLF O.s h41), e46, ?_⟩
                exact hk _ _  O.g 
              · have hk := wp_el hk q31
                obtain ⟨y48, e49, hk⟩ := wp_opt hk
                obtain ⟨p50, w51, v52, v53, e54, h55, r56, r57⟩ := R.sm_two f_sum_told e49
                cases e54
                refine ⟨_, rfl, _, rfl, _, _, rfl, (SqTF O.s h55), (sl3 _ _ _), fun p58 hp59 => ?_⟩
                obtain ⟨F60, O61, S62, h63⟩ := O.putE hp59 (.tup [v52, v53])
                have f_sum_told := f_sum_told.mono S62
                have f_so := f_so.mono S62
                have f_more := f_more.mono S62
                have h4 := S62 _ _ h4
                have h55 := S62 _ _ h55
                have r56 := r56.mono S62
                have r57 := r57.mono S62
                have hl64 : RL (a := Sm) F60 [v52, v53] [y48.1, y48.2] := RL.cons r56 (RL.cons r57 RL.nil)
                obtain ⟨c70, L66, hL67, hLs68, hLd69⟩ := compS_L hk
                refine ⟨_, rfl, ⟨_, (SqTF O61.s h63)⟩, fun p71 hp72 => ?_⟩
                have z94 := O61.was hp72
                refine lc_tup (K := K) (xs := [v52, v53]) (fun i H => ∃ (F_ : Hp) (st : Unit) (acc : List Int) (wa : List V), Same F60 F_ ∧ Ow _ F_ [(p71, .lst wa)] H ∧ RL F_ wa acc ∧ wa.length ≤ i ∧ L66 (List.drop i ([y48.1, y48.2])) acc st) ⟨F60, (), [], [], Same.refl _, O61.new hp72, RL.nil, Nat.zero_le _, hL67⟩ (fun i_ H_ _ hp_ => ?_) ?_ ?_
                · obtain ⟨_, _, _, _, hS_, hO_, _⟩ := hp_
                  exact SqTF hO_.s (hS_ _ _ h63)
                · rintro i73 x74 H75 hi76 ⟨F81, st82, acc78, wa79, S83, O85, hl84, la80, hL67⟩
                  have f_sum_told := f_sum_told.mono S83
                  have f_so := f_so.mono S83
                  have f_more := f_more.mono S83
                  have h4 := S83 _ _ h4
                  have h55 := S83 _ _ h55
                  have r56 := r56.mono S83
                  have r57 := r57.mono S83
                  have h63 := S83 _ _ h63
                  have hl64 := hl64.mono S83
                  obtain ⟨y65, e86, r87⟩ := RL.got hl64 hi76
                  rw [drop_at e86] at hL67
                  have hk := hLs68 _ _ _ _ hL67
                  refine ⟨rfl, ?_⟩
                  refine ⟨_, rfl, _, rfl, _, rfl, _, rfl, _, rfl, _, _, _, _, _, _, _, _, _, rfl, O85.pre0, r87, f_so, f_more, wp_call hk (fun r88 er89 hk F90 H91 g92 => ?_) (fun n hn => hn.elim)⟩
                  have O93 := O85.call0 g92
                  have S_ := g92.f
                  have f_sum_told := f_sum_told.mono S_
                  have f_so := f_so.mono S_
                  have f_more := f_more.mono S_
                  have h4 := S_ _ _ h4
                  have h55 := S_ _ _ h55
                  have r56 := r56.mono S_
                  have r57 := r57.mono S_
                  have h63 := S_ _ _ h63
                  have hl64 := hl64.mono S_
                  have S83 := S83.trans S_
                  have hl84 := hl84.mono S_
                  have r87 := r87.mono S_
                  refine ⟨_, (O93.at 0 rfl), (comp_len la80 hi76 hl64.len c70), ?_⟩
                  exact ⟨F90, (), acc78 ++ [r88], wa79 ++ [V.int r88], S83, O93.set 0 (.lst (wa79 ++ [V.int r88])) rfl, RL.snoc hl84 R.int, by rw [List.length_append]; exact Nat.succ_le_succ la80, hk⟩
                rintro H95 ⟨F96, st97, acc98, wa99, S100, O101, hl102, la103, hL104⟩
                rw [drop_end hl64.len] at hL104
                have hk := hLd69 _ _ hL104
                have f_sum_told := f_sum_told.mono S100
                have f_so := f_so.mono S100
                have f_more := f_more.mono S100
                have h4 := S100 _ _ h4
                have h55 := S100 _ _ h55
                have r56 := r56.mono S100
                have r57 := r57.mono S100
                have h63 := S100 _ _ h63
                have hl64 := hl64.mono S100
                obtain ⟨F106, O107, S108, h109⟩ := O101.frzE 0 rfl z94
                have f_sum_told := f_sum_told.mono S108
                have f_so := f_so.mono S108
                have f_more := f_more.mono S108
                have h4 := S108 _ _ h4
                have h55 := S108 _ _ h55
                have r56 := r56.mono S108
                have r57 := r57.mono S108
                have h63 := S108 _ _ h63
                have hl64 := hl64.mono S108
                have hl102 := hl102.mono S108
                have h110 := R.lst (a := Int) h109 hl102
                obtain ⟨p111, w112, e113, h114, hl115⟩ := R.lst_ h110
                cases e113
                obtain ⟨x116, y117, e118, hk⟩ := wp_two2 hk
                have hl119 : RL (a := Int) F106 w112 [x116, y117] := by rw [← e118]; exact hl115
                obtain ⟨w120, w121, e122, r123, q124⟩ := RL.cons_ hl119
                obtain ⟨w125, w126, e127, r128, q129⟩ := RL.cons_ q124
                rw [e127, RL.nil_ q129] at e122
                obtain rfl := R.int_ r123
                obtain rfl := R.int_ r128
                refine ⟨_, _, rfl, (SqLF O107.s h114), (by rw [e122]; rfl), ?_⟩
                rw [e122]
                refine ⟨_, _, rfl, _, _, rfl, rfl, _, rfl, _, _, R.str, R.str, _, rfl, ?_⟩
                refine iteD (fun q131 => ?_) (fun q131 => ?_)
                · have hk := wp_if hk q131
                  refine ⟨_, rfl, _, rfl, _, _, rfl, rfl, ?_⟩
                  exact hk _ _  O107.g 
                · have hk := wp_el hk q131
                  refine ⟨_, rfl, _, _, R.str, R.str, _, rfl, ?_⟩
                  refine iteD (fun q132 => ?_) (fun q132 => ?_)
                  · have hk := wp_if hk q132
                    refine ⟨_, rfl, _, rfl, _, _, rfl, rfl, ?_⟩
                    exact hk _ _  O107.g 
                  · have hk := wp_el hk q132
                    refine ⟨_, rfl, _, _, R.str, R.str, _, rfl, ?_⟩
                    refine iteD (fun q133 => ?_) (fun q133 => ?_)
                    · have hk := wp_if hk q133
                      obtain ⟨c134, hk⟩ := wp_chk hk
                      refine ⟨_, rfl, _, rfl, _, _, rfl, rfl, c134, ?_⟩
                      exact hk _ _  O107.g 
                    · have hk := wp_el hk q133
                      refine ⟨_, rfl, _, _, R.str, R.str, _, rfl, ?_⟩
                      refine iteD (fun q135 => ?_) (fun q135 => ?_)
                      · have hk := wp_if hk q135
                        refine ⟨_, rfl, _, rfl, _, _, rfl, ?_⟩
                        exact hk _ _  O107.g 
                      · have hk := wp_el hk q135
                        refine ⟨_, rfl, _, rfl, _, _, rfl, ?_⟩
                        exact hk _ _  O107.g 
abbrev s_law_stir : Stmt := top 3
theorem sc_law_stir : FnScope ["cell", "k", "number"] ["cell", "k"] (defScope s_law_stir) := ⟨rfl, rfl, rfl, by decide +kernel, rfl, by decide +kernel, by decide +kernel⟩
def m_law_stir (x_cell : Int) (x_k : Int) : M (Int) :=
chk (0 < ((10 : Int) ^ Int.toNat (40 : Int))) >>= fun _ =>
chk (CMulW (x_cell % ((10 : Int) ^ Int.toNat (40 : Int))) (48271 : Int)) >>= fun _ =>
chk (CMulW ((3 : Int) ^ Int.toNat (60 : Int)) (x_k + (1 : Int))) >>= fun _ =>
chk (CMulW (((3 : Int) ^ Int.toNat (60 : Int)) * (x_k + (1 : Int))) (x_k + (1 : Int))) >>= fun _ =>
ret ((((x_cell % ((10 : Int) ^ Int.toNat (40 : Int))) * (48271 : Int)) + ((((3 : Int) ^ Int.toNat (60 : Int)) * (x_k + (1 : Int))) * (x_k + (1 : Int)))) + x_k) >>= fun n5 =>
chk (CMulW n5 n5) >>= fun _ =>
chk (CMulW (69621 : Int) n5) >>= fun _ =>
ret ((n5 * n5) + ((69621 : Int) * n5)) >>= fun n9 =>
chk (CMulW n9 n9) >>= fun _ =>
chk (0 < (((10 : Int) ^ Int.toNat (61 : Int)) + (7 : Int))) >>= fun _ =>
chk (CDivW ((n9 * n9) % (((10 : Int) ^ Int.toNat (61 : Int)) + (7 : Int))) (8 : Int)) >>= fun _ =>
.ok (((n9 * n9) % (((10 : Int) ^ Int.toNat (61 : Int)) + (7 : Int))) / (8 : Int))
def sp_law_stir (mg : Str → Option Value) : Sp := fun vs H Q E => ∃ (F : Hp) (x_cell : Int) (x_k : Int), vs = [V.int x_cell, V.int x_k] ∧ Pre F [] H ∧
  wp (m_law_stir x_cell x_k) (fun r => ∀ (F' H' : Hp), Gr [] F H F' H' → Q (V.int r) H')
  (fun n => ∀ (C : Addr) (H' : Hp), mg (Str.ofString n) = some (.ref C) → Kp [] H H' → E (.ref C) none H')
set_option maxHeartbeats 2000000 in
theorem ok_law_stir (nb : Nb mg) (D : Df K mg "_law_stir" "_law_stir" s_law_stir ["cell", "k"]) : Ca P w K mg base "_law_stir" 1 ["cell", "k"] (sp_law_stir mg) := by
  refine Ca.mk' D sc_law_stir (fun vs H Q E h => ?_) (fun q_ f_ cdv A outer s H vs Q E hr h => ?_)
  · obtain ⟨F, _, _, rfl, _⟩ := h
    rfl
  · obtain ⟨F, x_cell, x_k, rfl, P0, hk⟩ := h
    have nd := sc_law_stir.nd
    have hu64 := hr.units
    have hu128 := hu128_of hr
    have O := P0.start
    refine ⟨_, (pss_cons (ps_set (i := 2) nd rfl (Or.inl rfl) (pe_op op_add (pe_op op_add (pe_op op_mulW (pe_op op_mod (pv 0) (pe_op op_pow pe_int pe_int)) pe_int) (pe_op op_mulW (pe_op op_mulW (pe_op op_pow pe_int pe_int) (pe_op op_add (pv 1) pe_int)) (pe_op op_add (pv 1) pe_int))) (pv 1)))
  (pss_cons (ps_set (i := 2) nd rfl (Or.inl rfl) (pe_op op_add (pe_op op_mulW (pv 2) (pv 2)) (pe_op op_mulW pe_int (pv 2))))
  (pss_one (ps_ret (pe_op op_fdivW (pe_op op_mod (pe_op op_mulW (pv 2) (pv 2)) (pe_op op_add (pe_op op_pow pe_int pe_int) pe_int)) pe_int))))), ?_⟩
    obtain ⟨c1, hk⟩ := wp_chk hk
    obtain ⟨c2, hk⟩ := wp_chk hk
    obtain ⟨c3, hk⟩ := wp_chk hk
    obtain ⟨c4, hk⟩ := wp_chk hk
    obtain ⟨n5, hn6, hk⟩ := wp_ret hk
    subst hn6
    obtain ⟨c7, hk⟩ := wp_chk hk
    obtain ⟨c8, hk⟩ := wp_chk hk
    obtain ⟨n9, hn10, hk⟩ := wp_ret hk
    subst hn10
    obtain ⟨c11, hk⟩ := wp_chk hk
    obtain ⟨c12, hk⟩ := wp_chk hk
    obtain ⟨c13, hk⟩ := wp_chk hk
    refine ⟨_, rfl, _, _, rfl, rfl, (by decide), _, _, rfl, rfl, c1, _, _, rfl, rfl, c2, _, _, rfl, rfl, (by decide), _, rfl, _, _, rfl, rfl, _, _, rfl, rfl, c3, _, rfl, _, _, rfl, rfl, _, _, rfl, rfl, c4, _, _, rfl, rfl, _, rfl, _, _, rfl, rfl, _, rfl, _, rfl, _, _, rfl, rfl, c7, _, rfl, _, _, rfl, rfl, c8, _, _, rfl, rfl, _, rfl, _, rfl, _, _, rfl, rfl, c11, _, _, rfl, rfl, (by decide), _, _, rfl, rfl, _, _, rfl, rfl, c12, _, _, rfl, rfl, c13, ?_⟩
    exact hk _ _  O.g 
abbrev s_law_deck : Stmt := top 4
theorem sc_law_deck : FnScope ["cell"] ["cell"] (defScope s_law_deck) := ⟨rfl, rfl, rfl, by decide +kernel, rfl, by decide +kernel, by decide +kernel⟩
def m_law_deck (x_cell : Int) : M ((List Int)) :=
if ((10 : Int) ^ Int.toNat (18 : Int)) ≤ x_cell then (
.ok ([(x_cell - ((10 : Int) ^ Int.toNat (18 : Int)))]))
else (
m_law_stir x_cell (1 : Int) >>= fun r9 =>
chk (CMulW r9 ((10 : Int) ^ Int.toNat (60 : Int))) >>= fun _ =>
m_law_stir x_cell (2 : Int) >>= fun r16 =>
chk (CMulW ((r9 * ((10 : Int) ^ Int.toNat (60 : Int))) + r16) ((10 : Int) ^ Int.toNat (60 : Int))) >>= fun _ =>
m_law_stir x_cell (3 : Int) >>= fun r23 =>
.ok ([((((r9 * ((10 : Int) ^ Int.toNat (60 : Int))) + r16) * ((10 : Int) ^ Int.toNat (60 : Int))) + r23)]))
def sp_law_deck (mg : Str → Option Value) : Sp := fun vs H Q E => ∃ (F : Hp) (x_cell : Int), vs = [V.int x_cell] ∧ Pre F [] H ∧
  wp (m_law_deck x_cell) (fun r => ∀ (F' H' : Hp), Gr [] F H F' H' → ∀ (p : Addr) (w : (List V)), H p = none → F' p = none → H' p = some (.lst w) → RL (a := Int) F' w r → Q (.ref p) H')
  (fun n => ∀ (C : Addr) (H' : Hp), mg (Str.ofString n) = some (.ref C) → Kp [] H H' → E (.ref C) none H')
set_option maxHeartbeats 2000000 in
theorem ok_law_deck (nb : Nb mg) (C_law_stir : Ca P w K mg base "_law_stir" 1 ["cell", "k"] (sp_law_stir mg)) (D : Df K mg "_law_deck" "_law_deck" s_law_deck ["cell"]) : Ca P w K mg base "_law_deck" 2 ["cell"] (sp_law_deck mg) := by
  obtain ⟨fa_law_stir, fd_law_stir, G_law_stir, M_law_stir, K_law_stir, B_law_stir⟩ := C_law_stir.ex
  refine Ca.mk' D sc_law_deck (fun vs H Q E h => ?_) (fun q_ f_ cdv A outer s H vs Q E hr h => ?_)
  · obtain ⟨F, _, rfl, _⟩ := h
    rfl
  · obtain ⟨F, x_cell, rfl, P0, hk⟩ := h
    have nd := sc_law_deck.nd
    have hu64 := hr.units
    have hu128 := hu128_of hr
    have O := P0.start
    refine ⟨_, (pss_cons (ps_if (pt_cmpR op_ge (pv 0) (pe_op op_pow pe_int pe_int) (nomark _)) (pss_one (ps_ret (pe_lst (pa_cons (pe_op op_sub (pv 0) (pe_op op_pow pe_int pe_int)) pa_nil)))) pss_nil)
  (pss_one (ps_ret (pe_lst (pa_cons (pe_op op_add (pe_op op_mulW (pe_op op_add (pe_op op_mulW (pe_call G_law_stir (hr.mono (by decide)) rfl M_law_stir K_law_stir B_law_stir .nil (passes_call (takes_of rfl rfl rfl rfl) fun _ _ _ _ h => h) (pa_cons (pv 0) (pa_cons pe_int pa_nil))) (pe_op op_pow pe_int pe_int)) (pe_call G_law_stir (hr.mono (by decide)) rfl M_law_stir K_law_stir B_law_stir .nil (passes_call (takes_of rfl rfl rfl rfl) fun _ _ _ _ h => h) (pa_cons (pv 0) (pa_cons pe_int pa_nil)))) (pe_op op_pow pe_int pe_int)) (pe_call G_law_stir (hr.mono (by decide)) rfl M_law_stir K_law_stir B_law_stir .nil (passes_call (takes_of rfl rfl rfl rfl) fun _ _ _ _ h => h) (pa_cons (pv 0) (pa_cons pe_int pa_nil)))) pa_nil))))), ?_⟩
    refine ⟨_, rfl, _, _, rfl, rfl, (by decide), _, _, rfl, rfl, _, rfl, ?_⟩
    refine iteD (fun q1 => ?_) (fun q1 => ?_)
    · have hk := wp_if hk q1
      refine ⟨_, rfl, _, _, rfl, rfl, (by decide), _, _, rfl, rfl, (by show 1 ≤ sizeLine; decide), fun p3 hp4 => ?_⟩
      have hl6 : RL (a := Int) F ([V.int (x_cell - ((10 : Int) ^ Int.toNat (18 : Int)))]) ([(x_cell - ((10 : Int) ^ Int.toNat (18 : Int)))]) := RL.cons R.int RL.nil
      have z7 := O.was hp4
      have O5 := O.new (o := .lst ([V.int (x_cell - ((10 : Int) ^ Int.toNat (18 : Int)))])) hp4
      exact hk _ _  O5.g  _ _ z7 (O5.cf _ (List.mem_of_getElem? (i := 0) rfl)) (O5.at 0 rfl) hl6
    · have hk := wp_el hk q1
      refine ⟨_, rfl, _, _, _, rfl, O.pre0, wp_call hk (fun r9 er10 hk F11 H12 g13 => ?_) (fun n hn C H1 hC kp => hn C H1 hC (O.kp0 kp))⟩
      have O14 := O.call0 g13
      have S_ := g13.f
      obtain ⟨c15, hk⟩ := wp_chk hk
      refine ⟨_, _, rfl, rfl, (by decide), _, _, rfl, rfl, c15, _, rfl, _, _, _, rfl, O14.pre0, wp_call hk (fun r16 er17 hk F18 H19 g20 => ?_) (fun n hn C H1 hC kp => hn C H1 hC (O14.kp0 kp))⟩
      have O21 := O14.call0 g20
      have S_ := g20.f
      obtain ⟨c22, hk⟩ := wp_chk hk
      refine ⟨_, _, rfl, rfl, _, _, rfl, rfl, (by decide), _, _, rfl, rfl, c22, _, rfl, _, _, _, rfl, O21.pre0, wp_call hk (fun r23 er24 hk F25 H26 g27 => ?_) (fun n hn C H1 hC kp => hn C H1 hC (O21.kp0 kp))⟩
      have O28 := O21.call0 g27
      have S_ := g27.f
      refine ⟨_, _, rfl, rfl, (by show 1 ≤ sizeLine; decide), fun p29 hp30 => ?_⟩
      have hl32 : RL (a := Int) F25 ([V.int ((((r9 * ((10 : Int) ^ Int.toNat (60 : Int))) + r16) * ((10 : Int) ^ Int.toNat (60 : Int))) + r23)]) ([((((r9 * ((10 : Int) ^ Int.toNat (60 : Int))) + r16) * ((10 : Int) ^ Int.toNat (60 : Int))) + r23)]) := RL.cons R.int RL.nil
      have z33 := O28.was hp30
      have O31 := O28.new (o := .lst ([V.int ((((r9 * ((10 : Int) ^ Int.toNat (60 : Int))) + r16) * ((10 : Int) ^ Int.toNat (60 : Int))) + r23)])) hp30
      exact hk _ _  O31.g  _ _ z33 (O31.cf _ (List.mem_of_getElem? (i := 0) rfl)) (O31.at 0 rfl) hl32
abbrev s_law_take : Stmt := top 5
theorem sc_law_take : FnScope ["deck", "many", "taken"] ["deck", "many"] (defScope s_law_take) := ⟨rfl, rfl, rfl, by decide +kernel, rfl, by decide +kernel, by decide +kernel⟩
def m_law_take (x_deck : (List Int)) (x_many : Int) : M (Int × (List Int)) :=
opt (atI x_deck (0 : Int)) >>= fun y1 =>
chk (0 < x_many) >>= fun _ =>
opt (atI x_deck (0 : Int)) >>= fun y7 =>
chk (CDivW y7 x_many) >>= fun _ =>
setI x_deck (0 : Int) (y7 / x_many) >>= fun z15 =>
.ok ((y1 % x_many), z15)
def sp_law_take (mg : Str → Option Value) : Sp := fun vs H Q E => ∃ (F : Hp) (a_deck : Addr) (w_deck : (List V)) (x_deck : (List Int)) (x_many : Int), vs = [.ref a_deck, V.int x_many] ∧ Pre F [(a_deck, .lst w_deck)] H ∧ RL (a := Int) F w_deck x_deck ∧
  wp (m_law_take x_deck x_many) (fun r => ∀ (F' H' : Hp) (w0 : (List V)), Gr [a_deck] F H F' H' → H' a_deck = some (.lst w0) → RL (a := Int) F' w0 r.2 → Q (V.int r.1) H')
  (fun n => ∀ (C : Addr) (H' : Hp), mg (Str.ofString n) = some (.ref C) → Kp [a_deck] H H' → E (.ref C) none H')
set_option maxHeartbeats 2000000 in
theorem ok_law_take (nb : Nb mg) (D : Df K mg "_law_take" "_law_take" s_law_take ["deck", "many"]) : Ca P w K mg base "_law_take" 1 ["deck", "many"] (sp_law_take mg) := by
  refine Ca.mk' D sc_law_take (fun vs H Q E h => ?_) (fun q_ f_ cdv A outer s H vs Q E hr h => ?_)
  · obtain ⟨F, _, _, _, _, rfl, _⟩ := h
    rfl
  · obtain ⟨F, a_deck, w_deck, x_deck, x_many, rfl, P0, f_deck, hk⟩ := h
    have nd := sc_law_take.nd
    have hu64 := hr.units
    have hu128 := hu128_of hr
    have O := P0.start
    refine ⟨_, (pss_cons (ps_set (i := 2) nd rfl (Or.inl rfl) (pe_op op_mod (pe_ix (ixListK (K := K) rfl) (pv 0) pe_int (fun _ _ => rfl)) (pv 1)))
  (pss_cons (ps_asg (pe_op op_fdivW (pe_ix (ixListK (K := K) rfl) (pv 0) pe_int (fun _ _ => rfl)) (pv 1)) (pg_sub (pv 0) pe_int set_list))
  (pss_one (ps_ret (pv 2))))), ?_⟩
    obtain ⟨y1, e2, hk⟩ := wp_opt hk
    obtain ⟨w3, e4, r5⟩ := f_deck.atI e2
    obtain rfl := R.int_ r5
    obtain ⟨c6, hk⟩ := wp_chk hk
    obtain ⟨y7, e8, hk⟩ := wp_opt hk
    obtain ⟨w9, e10, r11⟩ := f_deck.atI e8
    obtain rfl := R.int_ r11
    obtain ⟨c12, hk⟩ := wp_chk hk
    obtain ⟨j13, e14, hk⟩ := wp_setI hk
    refine ⟨_, rfl, _, _, _, _, rfl, rfl, (SqL.of (O.at 0 rfl)), e4, _, rfl, _, _, rfl, rfl, c6, _, rfl, _, _, _, _, rfl, rfl, (SqL.of (O.at 0 rfl)), e10, _, rfl, _, _, rfl, rfl, c12, _, rfl, _, _, _, _, rfl, rfl, (O.at 0 rfl), (by rw [f_deck.len]; exact e14), ?_⟩
    have O16 := O.set 0 (.lst (w_deck.set j13 (V.int (y7 / x_many)))) rfl
    have hl17 : RL (a := Int) F (w_deck.set j13 (V.int (y7 / x_many))) (x_deck.set j13 (y7 / x_many)) := RL.set j13 f_deck R.int
    refine ⟨_, rfl, ?_⟩
    exact hk _ _ (w_deck.set j13 (V.int (y7 / x_many))) O16.g (O16.at 0 rfl) hl17
abbrev s_law_whole : Stmt := top 6
theorem sc_law_whole : FnScope ["found"] ["found"] (defScope s_law_whole) := ⟨rfl, rfl, rfl, by decide +kernel, rfl, by decide +kernel, by decide +kernel⟩
def m_law_whole (x_found : Int) : M (Bool) :=
.ok true
def sp_law_whole (mg : Str → Option Value) : Sp := fun vs H Q E => ∃ (F : Hp) (x_found : Int), vs = [V.int x_found] ∧ Pre F [] H ∧
  wp (m_law_whole x_found) (fun r => ∀ (F' H' : Hp), Gr [] F H F' H' → Q (V.bl r) H')
  (fun n => ∀ (C : Addr) (H' : Hp), mg (Str.ofString n) = some (.ref C) → Kp [] H H' → E (.ref C) none H')
set_option maxHeartbeats 2000000 in
theorem ok_law_whole (nb : Nb mg) (D : Df K mg "_law_whole" "_law_whole" s_law_whole ["found"]) : Ca P w K mg base "_law_whole" 1 ["found"] (sp_law_whole mg) := by
  refine Ca.mk' D sc_law_whole (fun vs H Q E h => ?_) (fun q_ f_ cdv A outer s H vs Q E hr h => ?_)
  · obtain ⟨F, _, rfl, _⟩ := h
    rfl
  · obtain ⟨F, x_found, rfl, P0, hk⟩ := h
    have nd := sc_law_whole.nd
    have hu64 := hr.units
    have hu128 := hu128_of hr
    have O := P0.start
    refine ⟨_, (pss_one (ps_ret (pe_and (pe_callB (isiK (K := K) rfl) (by rfl) nb.b_isinstance (by decide +kernel) (pa_cons (pv 0) (pa_cons (pe_bltn (v := .ty "int") (by rfl) nb.b_int (by decide +kernel) rfl) pa_nil))) (pe_one (pe_not (pe_callB (isiK (K := K) rfl) (by rfl) nb.b_isinstance (by decide +kernel) (pa_cons (pv 0) (pa_cons (pe_bltn (v := .ty "bool") (by rfl) nb.b_bool (by decide +kernel) rfl) pa_nil)))))))), ?_⟩
    refine ⟨_, rfl, _, _, _, _, true, rfl, .ty _, (.base (.int _)), kit_ty (by decide +kernel), _, rfl, ?_⟩
    refine iteT ?_
    refine ⟨_, rfl, _, _, _, _, false, rfl, .ty _, (.base (.int _)), kit_ty (by decide +kernel), _, rfl, ?_⟩
    exact hk _ _  O.g 
abbrev s_law_leaf : Stmt := top 8
theorem sc_law_leaf : FnScope ["deck", "leaves", "many", "way"] ["deck", "leaves", "many"] (defScope s_law_leaf) := ⟨rfl, rfl, rfl, by decide +kernel, rfl, by decide +kernel, by decide +kernel⟩
def m_law_leaf (x_deck : (List Int)) (x_leaves : (List Str)) (x_many : Int) : M (Sm × (List Int)) :=
m_law_take x_deck ((1 : Int) + (x_leaves.length : Int)) >>= fun r6 =>
if r6.1 = (0 : Int) then (
m_law_take r6.2 (19 : Int) >>= fun r16 =>
.ok ((Sm.num (("number" : Str), (r16.1 - (9 : Int))).1 (("number" : Str), (r16.1 - (9 : Int))).2), r16.2))
else (
opt (atI x_leaves (r6.1 - (1 : Int))) >>= fun y37 =>
if y37 ∈ ([(("so" : Str), ("more" : Str)).1, (("so" : Str), ("more" : Str)).2]) then (
opt (atI x_leaves (r6.1 - (1 : Int))) >>= fun y62 =>
m_law_take r6.2 x_many >>= fun r67 =>
.ok ((Sm.num (y62, r67.1).1 (y62, r67.1).2), r67.2))
else (
opt (atI x_leaves (r6.1 - (1 : Int))) >>= fun y88 =>
.ok ((Sm.nam y88), r6.2)))
def sp_law_leaf (mg : Str → Option Value) : Sp := fun vs H Q E => ∃ (F : Hp) (a_deck : Addr) (w_deck : (List V)) (x_deck : (List Int)) (v_leaves : V) (x_leaves : (List Str)) (x_many : Int), vs = [.ref a_deck, v_leaves, V.int x_many] ∧ Pre F [(a_deck, .lst w_deck)] H ∧ RL (a := Int) F w_deck x_deck ∧ R (a := (List Str)) F v_leaves x_leaves ∧
  wp (m_law_leaf x_deck x_leaves x_many) (fun r => ∀ (F' H' : Hp) (w0 : (List V)), Gr [a_deck] F H F' H' → H' a_deck = some (.lst w0) → RL (a := Int) F' w0 r.2 → ∀ v : V, R (a := Sm) F' v r.1 → Q v H')
  (fun n => ∀ (C : Addr) (H' : Hp), mg (Str.ofString n) = some (.ref C) → Kp [a_deck] H H' → E (.ref C) none H')
set_option maxHeartbeats 2000000 in
theorem ok_law_leaf (nb : Nb mg) (C_law_take : Ca P w K mg base "_law_take" 1 ["deck", "many"] (sp_law_take mg)) (D : Df K mg "_law_leaf" "_law_leaf" s_law_leaf ["deck", "leaves", "many"]) : Ca P w K mg base "_law_leaf" 2 ["deck", "leaves", "many"] (sp_law_leaf mg) := by
  obtain ⟨fa_law_take, fd_law_take, G_law_take, M_law_take, K_law_take, B_law_take⟩ := C_law_take.ex
  refine Ca.mk' D sc_law_leaf (fun vs H Q E h => ?_) (fun q_ f_ cdv A outer s H vs Q E hr h => ?_)
  · obtain ⟨F, _, _, _, _, _, _, rfl, _⟩ := h
    rfl
  · obtain ⟨F, a_deck, w_deck, x_deck, v_leaves, x_leaves, x_many, rfl, P0, f_deck, f_leaves, hk⟩ := h
    have nd := sc_law_leaf.nd
    have hu64 := hr.units
    have hu128 := hu128_of hr
    have O := P0.start
    refine ⟨_, (pss_cons (ps_set (i := 3) nd rfl (Or.inl rfl) (pe_call G_law_take (hr.mono (by decide)) rfl M_law_take K_law_take B_law_take .nil (passes_call (takes_of rfl rfl rfl rfl) fun _ _ _ _ h => h) (pa_cons (pv 0) (pa_cons (pe_op op_add pe_int (pe_callB call_lenT (by rfl) nb.b_len PySem.boot_len (pa_cons (pv 1) pa_nil))) pa_nil))))
  (pss_cons (ps_if (pt_cmpR (op_eqT Int hu64) (pv 3) pe_int (nomark _)) (pss_one (ps_ret (pe_tup (pa_cons pe_str (pa_cons (pe_op op_sub (pe_call G_law_take (hr.mono (by decide)) rfl M_law_take K_law_take B_law_take .nil (passes_call (takes_of rfl rfl rfl rfl) fun _ _ _ _ h => h) (pa_cons (pv 0) (pa_cons pe_int pa_nil))) pe_int) pa_nil))))) pss_nil)
  (pss_cons (ps_if (pt_cmpR (op_inT Str hu64) (pe_ix (ixListK (K := K) rfl) (pv 1) (pe_op op_sub (pv 3) pe_int) (fun _ _ => rfl)) (pe_tup (pa_cons pe_str (pa_cons pe_str pa_nil))) rfl) (pss_one (ps_ret (pe_tup (pa_cons (pe_ix (ixListK (K := K) rfl) (pv 1) (pe_op op_sub (pv 3) pe_int) (fun _ _ => rfl)) (pa_cons (pe_call G_law_take (hr.mono (by decide)) rfl M_law_take K_law_take B_law_take .nil (passes_call (takes_of rfl rfl rfl rfl) fun _ _ _ _ h => h) (pa_cons (pv 0) (pa_cons (pv 2) pa_nil))) pa_nil))))) pss_nil)
  (pss_one (ps_ret (pe_tup (pa_cons (pe_ix (ixListK (K := K) rfl) (pv 1) (pe_op op_sub (pv 3) pe_int) (fun _ _ => rfl)) pa_nil))))))), ?_⟩
    obtain ⟨p1, w2, e3, h4, hl5⟩ := R.lst_ f_leaves
    cases e3
    refine ⟨_, rfl, _, rfl, _, _, _, rfl, (.inl (O.s _ _ h4)), hl5.len, _, _, rfl, rfl, _, _, _, _, _, rfl, (O.pre1 0 rfl), f_deck, wp_call hk (fun r6 er7 hk F8 H9 w11 g10 h12 hl13 => ?_) (fun n hn C H1 hC kp => hn C H1 hC (O.kp1 kp 0 rfl))⟩
    have O14 := O.call1 g10 0 rfl h12
    have S_ := g10.f
    have f_leaves := f_leaves.mono S_
    have h4 := S_ _ _ h4
    have hl5 := hl5.mono S_
    refine ⟨_, rfl, _, _, R.int, R.int, _, rfl, ?_⟩
    refine iteD (fun q15 => ?_) (fun q15 => ?_)
    · have hk := wp_if hk q15
      refine ⟨_, rfl, _, _, _, _, _, rfl, (O14.pre1 0 rfl), hl13, wp_call hk (fun r16 er17 hk F18 H19 w21 g20 h22 hl23 => ?_) (fun n hn C H1 hC kp => hn C H1 hC (O14.kp1 kp 0 rfl))⟩
      have O24 := O14.call1 g20 0 rfl h22
      have S_ := g20.f
      have f_leaves := f_leaves.mono S_
      have h4 := S_ _ _ h4
      have hl5 := hl5.mono S_
      refine ⟨_, _, rfl, rfl, (by show 2 ≤ sizeLine; decide), fun p25 hp26 => ?_⟩
      obtain ⟨F27, O28, S29, h30⟩ := O24.putE hp26 (.tup [V.str ("number" : Str), V.int (r16.1 - (9 : Int))])
      have f_leaves := f_leaves.mono S29
      have h4 := S29 _ _ h4
      have hl5 := hl5.mono S29
      have hl23 := hl23.mono S29
      have h31 : R (a := (Str × Int)) F27 (.ref p25) (("number" : Str), (r16.1 - (9 : Int))) := R.t2 h30 R.str R.int
      exact hk _ _ w21 O28.g (O28.at 0 rfl) hl23 _ (R.of_num h31)
    · have hk := wp_el hk q15
      obtain ⟨p32, w33, e34, h35, hl36⟩ := R.lst_ f_leaves
      cases e34
      obtain ⟨y37, e38, hk⟩ := wp_opt hk
      obtain ⟨w39, e40, r41⟩ := hl36.atI e38
      obtain rfl := R.str_ r41
      refine ⟨_, rfl, _, rfl, _, _, rfl, rfl, _, _, _, _, rfl, rfl, (SqLF O14.s h35), e40, (by show 2 ≤ sizeLine; decide), fun p42 hp43 => ?_⟩
      obtain ⟨F44, O45, S46, h47⟩ := O14.putE hp43 (.tup [V.str ("so" : Str), V.str ("more" : Str)])
      have f_leaves := f_leaves.mono S46
      have h4 := S46 _ _ h4
      have hl5 := hl5.mono S46
      have hl13 := hl13.mono S46
      have h35 := S46 _ _ h35
      have hl36 := hl36.mono S46
      have h48 : R (a := (Str × Str)) F44 (.ref p42) (("so" : Str), ("more" : Str)) := R.t2 h47 R.str R.str
      obtain ⟨p49, v52, v53, e50, h51, r54, r55⟩ := R.t2_ h48
      cases e50
      obtain rfl := R.str_ r54
      obtain rfl := R.str_ r55
      refine ⟨_, _, _, _, R.str, rfl, (.inr (O45.s _ _ h51)), (RL.mono (RL.cons R.str (RL.cons R.str RL.nil)) O45.s), _, rfl, ?_⟩
      refine iteD (fun q56 => ?_) (fun q56 => ?_)
      · have hk := wp_if hk q56
        obtain ⟨p57, w58, e59, h60, hl61⟩ := R.lst_ f_leaves
        cases e59
        obtain ⟨y62, e63, hk⟩ := wp_opt hk
        obtain ⟨w64, e65, r66⟩ := hl61.atI e63
        obtain rfl := R.str_ r66
        refine ⟨_, rfl, _, rfl, _, _, rfl, rfl, _, _, _, _, rfl, rfl, (SqLF O45.s h60), e65, _, rfl, _, rfl, _, _, _, _, _, rfl, (O45.pre1 0 rfl), hl13, wp_call hk (fun r67 er68 hk F69 H70 w72 g71 h73 hl74 => ?_) (fun n hn C H1 hC kp => hn C H1 hC (O45.kp1 kp 0 rfl))⟩
        have O75 := O45.call1 g71 0 rfl h73
        have S_ := g71.f
        have f_leaves := f_leaves.mono S_
        have h4 := S_ _ _ h4
        have hl5 := hl5.mono S_
        have h35 := S_ _ _ h35
        have hl36 := hl36.mono S_
        have h48 := h48.mono S_
        have h51 := S_ _ _ h51
        have h60 := S_ _ _ h60
        have hl61 := hl61.mono S_
        refine ⟨(by show 2 ≤ sizeLine; decide), fun p76 hp77 => ?_⟩
        obtain ⟨F78, O79, S80, h81⟩ := O75.putE hp77 (.tup [V.str y62, V.int r67.1])
        have f_leaves := f_leaves.mono S80
        have h4 := S80 _ _ h4
        have hl5 := hl5.mono S80
        have h35 := S80 _ _ h35
        have hl36 := hl36.mono S80
        have h48 := h48.mono S80
        have h51 := S80 _ _ h51
        have h60 := S80 _ _ h60
        have hl61 := hl61.mono S80
        have hl74 := hl74.mono S80
        have h82 : R (a := (Str × Int)) F78 (.ref p76) (y62, r67.1) := R.t2 h81 R.str R.int
        exact hk _ _ w72 O79.g (O79.at 0 rfl) hl74 _ (R.of_num h82)
      · have hk := wp_el hk q56
        obtain ⟨p83, w84, e85, h86, hl87⟩ := R.lst_ f_leaves
        cases e85
        obtain ⟨y88, e89, hk⟩ := wp_opt hk
        obtain ⟨w90, e91, r92⟩ := hl87.atI e89
        obtain rfl := R.str_ r92
        refine ⟨_, rfl, _, rfl, _, _, rfl, rfl, _, _, _, _, rfl, rfl, (SqLF O45.s h86), e91, (by show 1 ≤ sizeLine; decide), fun p93 hp94 => ?_⟩
        obtain ⟨F95, O96, S97, h98⟩ := O45.putE hp94 (.tup [V.str y88])
        have f_leaves := f_leaves.mono S97
        have h4 := S97 _ _ h4
        have hl5 := hl5.mono S97
        have hl13 := hl13.mono S97
        have h35 := S97 _ _ h35
        have hl36 := hl36.mono S97
        have h48 := h48.mono S97
        have h51 := S97 _ _ h51
        have h86 := S97 _ _ h86
        have hl87 := hl87.mono S97
        have h99 := R.of_nam h98
        exact hk _ _ w11 O96.g (O96.at 0 rfl) hl13 _ h99
abbrev s_law_value : Stmt := top 11
theorem sc_law_value : FnScope ["told", "known", "one", "other", "part"] ["told", "known"] (defScope s_law_value) := ⟨rfl, rfl, rfl, by decide +kernel, rfl, by decide +kernel, by decide +kernel⟩
def m_law_value : Nat → Sm → (List (Str × IL)) → M (Int)
  | 0, _, _ => bad
  | k_ + 1, x_told, x_known =>
    if (Sm.word x_told) = ("number" : Str) then (
    opt (Sm.int? x_told) >>= fun y6 =>
    .ok y6)
    else (
    if (Sm.word x_told) ∈ ([(("own" : Str), ("tie" : Str)).1, (("own" : Str), ("tie" : Str)).2]) then (
    opt (dGet x_known (Sm.word x_told)) >>= fun y40 =>
    opt (IL.i? y40) >>= fun y45 =>
    .ok y45)
    else (
    if (Sm.word x_told) ∈ ([(("so" : Str), ("more" : Str)).1, (("so" : Str), ("more" : Str)).2]) then (
    opt (dGet x_known (Sm.word x_told)) >>= fun y76 =>
    opt (Sm.int? x_told) >>= fun y81 =>
    opt (IL.l? y76) >>= fun y87 =>
    opt (atI y87 y81) >>= fun y95 =>
    .ok y95)
    else (
    opt (Sm.two? x_told) >>= fun y100 =>
    compS (fun (y117 : Sm) (st134 : Unit) =>
    m_law_value k_ y117 x_known >>= fun r140 =>
    .ok (some r140, ())) ([y100.1, y100.2]) () >>= fun q157 =>
    two2 q157.1 >>= fun (x168, y169) =>
    if (Sm.word x_told) = ("times" : Str) then (
    chk (CMulW x168 y169) >>= fun _ =>
    .ok (x168 * y169))
    else (
    if (Sm.word x_told) ∈ ([(("plus" : Str), ("less" : Str)).1, (("plus" : Str), ("less" : Str)).2]) then (
    opt (atI ([(1 : Int), (-(1 : Int))]) (if (decide ((Sm.word x_told) = ("less" : Str))) = true then (1 : Int) else 0)) >>= fun y225 =>
    chk (CMulW y225 y169) >>= fun _ =>
    .ok (x168 + (y225 * y169)))
    else (
    opt (atI (sortT ([x168, y169])) (if (decide ((Sm.word x_told) = ("most" : Str))) = true then (1 : Int) else 0)) >>= fun y261 =>
    .ok y261)))))
def sp_law_value (k_ : Nat) (mg : Str → Option Value) : Sp := fun vs H Q E => ∃ (F : Hp) (v_told : V) (x_told : Sm) (v_known : V) (x_known : (List (Str × IL))), vs = [v_told, v_known] ∧ Pre F [] H ∧ R (a := Sm) F v_told x_told ∧ RDv (κ := Str) (β := IL) F v_known x_known ∧
  wp (m_law_value k_ x_told x_known) (fun r => ∀ (F' H' : Hp), Gr [] F H F' H' → Q (V.int r) H')
  (fun n => ∀ (C : Addr) (H' : Hp), mg (Str.ofString n) = some (.ref C) → Kp [] H H' → E (.ref C) none H')
set_option maxHeartbeats 2000000 in
theorem ok_law_value (nb : Nb mg) (D : Df K mg "_law_value" "_law_value" s_law_value ["told", "known"]) : ∀ k_ : Nat, Ca P w K mg base "_law_value" (k_ + 1) ["told", "known"] (sp_law_value k_ mg) := by
  intro k_
  induction k_ with
  | zero =>
    refine Ca.mk' D sc_law_value (fun vs H Q E h => ?_) (fun q_ f_ cdv A outer s H vs Q E hr h => ?_)
    · obtain ⟨F, _, _, _, _, rfl, _⟩ := h
      rfl
    · obtain ⟨F, _, _, _, _, rfl, _, _, _, hk⟩ := h
      exact hk.elim
  | succ k_ ih_ =>
    have C_law_value := ih_
    obtain ⟨fa_law_value, fd_law_value, G_law_value, M_law_value, K_law_value, B_law_value⟩ := C_law_value.ex
    refine Ca.mk' D sc_law_value (fun vs H Q E h => ?_) (fun q_ f_ cdv A outer s H vs Q E hr h => ?_)
    · obtain ⟨F, _, _, _, _, rfl, _⟩ := h
      rfl
    · obtain ⟨F, v_told, x_told, v_known, x_known, rfl, P0, f_told, f_known, hk⟩ := h
      have nd := sc_law_value.nd
      have hu64 := hr.units
      have hu128 := hu128_of hr
      have O := P0.start
      refine ⟨_, (pss_cons (ps_if (pt_cmpR (op_eqT Str hu64) (pe_ix (ixTupK (K := K) rfl) (pv 0) pe_int (fun _ _ => rfl)) pe_str (nomark _)) (pss_one (ps_ret (pe_ix (ixTupK (K := K) rfl) (pv 0) pe_int (fun _ _ => rfl)))) pss_nil)
  (pss_cons (ps_if (pt_cmpR (op_inT Str hu64) (pe_ix (ixTupK (K := K) rfl) (pv 0) pe_int (fun _ _ => rfl)) (pe_tup (pa_cons pe_str (pa_cons pe_str pa_nil))) rfl) (pss_one (ps_ret (pe_dget (u1_of hu64) (pv 1) (pe_ix (ixTupK (K := K) rfl) (pv 0) pe_int (fun _ _ => rfl)) (fun _ _ => rfl)))) pss_nil)
  (pss_cons (ps_if (pt_cmpR (op_inT Str hu64) (pe_ix (ixTupK (K := K) rfl) (pv 0) pe_int (fun _ _ => rfl)) (pe_tup (pa_cons pe_str (pa_cons pe_str pa_nil))) rfl) (pss_one (ps_ret (pe_ix (ixListK (K := K) rfl) (pe_dget (u1_of hu64) (pv 1) (pe_ix (ixTupK (K := K) rfl) (pv 0) pe_int (fun _ _ => rfl)) (fun _ _ => rfl)) (pe_ix (ixTupK (K := K) rfl) (pv 0) pe_int (fun _ _ => rfl)) (fun _ _ => rfl)))) pss_nil)
  (pss_cons (ps_asg (pe_lc (own := [("part", 4)]) (g := gName 4) (tt := _) rfl nd (pi_tup (pe_slice (slTupK (K := K) rfl) (pv 0) (po_some pe_int) po_none)) (blkOk_by (own := [("part", 4)]) (N := ["told", "known", "one", "other", "part"]) (sc := defScope s_law_value) (by decide +kernel)) (fun _ _ _ _ _ => (pg_name (i := 4) nd rfl (Or.inl rfl))) (fun _ _ _ _ _ => pts_nil) (fun _ _ _ _ _ => (pe_call G_law_value (hr.mono (by omega)) rfl M_law_value K_law_value B_law_value .nil passL (pa_cons (pv 4) (pa_cons (pv 1) pa_nil))))) (pgLstK (K := K) rfl rfl (pgs_cons (pg_name (i := 2) nd rfl (Or.inl rfl)) (pgs_cons (pg_name (i := 3) nd rfl (Or.inl rfl)) pgs_nil))))
  (pss_cons (ps_if (pt_cmpR (op_eqT Str hu64) (pe_ix (ixTupK (K := K) rfl) (pv 0) pe_int (fun _ _ => rfl)) pe_str (nomark _)) (pss_one (ps_ret (pe_op op_mulW (pv 2) (pv 3)))) pss_nil)
  (pss_cons (ps_if (pt_cmpR (op_inT Str hu64) (pe_ix (ixTupK (K := K) rfl) (pv 0) pe_int (fun _ _ => rfl)) (pe_tup (pa_cons pe_str (pa_cons pe_str pa_nil))) rfl) (pss_one (ps_ret (pe_op op_add (pv 2) (pe_op op_mulW (pe_ix (ixListK (K := K) rfl) (pe_lst (pa_cons pe_int (pa_cons (pe_un un_neg pe_int) pa_nil))) (pe_callTy intB (by rfl) nb.b_int (by decide +kernel) (pa_cons (pe_cmpR (op_eqT Str hu64) (pe_ix (ixTupK (K := K) rfl) (pv 0) pe_int (fun _ _ => rfl)) pe_str (nomark _)) pa_nil)) (fun _ _ => rfl)) (pv 3))))) pss_nil)
  (pss_one (ps_ret (pe_ix (ixListK (K := K) rfl) (pe_callB (cr_sortedT Int hu128) (by rfl) nb.b_sorted (by decide +kernel) (pa_cons (pe_lst (pa_cons (pv 2) (pa_cons (pv 3) pa_nil))) pa_nil)) (pe_callTy intB (by rfl) nb.b_int (by decide +kernel) (pa_cons (pe_cmpR (op_eqT Str hu64) (pe_ix (ixTupK (K := K) rfl) (pv 0) pe_int (fun _ _ => rfl)) pe_str (nomark _)) pa_nil)) (fun _ _ => rfl)))))))))), ?_⟩
      obtain ⟨p1, w2, e3, h4⟩ := R.sm_ f_told
      cases e3
      refine ⟨_, rfl, _, _, _, _, rfl, rfl, (SqTF O.s h4), (atI0 _ _), _, _, R.str, R.str, _, rfl, ?_⟩
      refine iteD (fun q5 => ?_) (fun q5 => ?_)
      · have hk := wp_if hk q5
        obtain ⟨y6, e7, hk⟩ := wp_opt hk
        obtain ⟨p8, w9, e10, h11⟩ := R.sm_int f_told e7
        cases e10
        refine ⟨_, rfl, _, _, _, _, rfl, rfl, (SqTF O.s h11), rfl, ?_⟩
        exact hk _ _  O.g 
      · have hk := wp_el hk q5
        obtain ⟨p12, w13, e14, h15⟩ := R.sm_ f_told
        cases e14
        refine ⟨_, rfl, _, _, _, _, rfl, rfl, (SqTF O.s h15), (atI0 _ _), (by show 2 ≤ sizeLine; decide), fun p16 hp17 => ?_⟩
        obtain ⟨F18, O19, S20, h21⟩ := O.putE hp17 (.tup [V.str ("own" : Str), V.str ("tie" : Str)])
        have f_told := f_told.mono S20
        have f_known := f_known.mono S20
        have h4 := S20 _ _ h4
        have h15 := S20 _ _ h15
        have h22 : R (a := (Str × Str)) F18 (.ref p16) (("own" : Str), ("tie" : Str)) := R.t2 h21 R.str R.str
        obtain ⟨p23, v26, v27, e24, h25, r28, r29⟩ := R.t2_ h22
        cases e24
        obtain rfl := R.str_ r28
        obtain rfl := R.str_ r29
        refine ⟨_, _, _, _, R.str, rfl, (.inr (O19.s _ _ h25)), (RL.mono (RL.cons R.str (RL.cons R.str RL.nil)) O19.s), _, rfl, ?_⟩
        refine iteD (fun q30 => ?_) (fun q30 => ?_)
        · have hk := wp_if hk q30
          obtain ⟨p31, w32, e33, h34⟩ := R.sm_ f_told
          cases e33
          obtain ⟨p35, w36, e37, h38, hl39⟩ := f_known
          cases e37
          have h38 : F18 _ = some (.dK w36) := h38
          obtain ⟨y40, e41, hk⟩ := wp_opt hk
          obtain ⟨w42, e43, r44⟩ := RD.some hl39 (k := (Sm.word x_told)) e41
          obtain ⟨y45, e46, hk⟩ := wp_opt hk
          have r47 := R.il_i r44 e46
          obtain rfl := R.int_ r47
          refine ⟨_, rfl, _, rfl, _, _, _, _, rfl, rfl, (SqTF O19.s h34), (atI0 _ _), _, _, rfl, (dget_S (O19.s _ _ h38) e43), ?_⟩
          exact hk _ _  O19.g 
        · have hk := wp_el hk q30
          obtain ⟨p48, w49, e50, h51⟩ := R.sm_ f_told
          cases e50
          refine ⟨_, rfl, _, _, _, _, rfl, rfl, (SqTF O19.s h51), (atI0 _ _), (by show 2 ≤ sizeLine; decide), fun p52 hp53 => ?_⟩
          obtain ⟨F54, O55, S56, h57⟩ := O19.putE hp53 (.tup [V.str ("so" : Str), V.str ("more" : Str)])
          have f_told := f_told.mono S56
          have f_known := f_known.mono S56
          have h4 := S56 _ _ h4
          have h15 := S56 _ _ h15
          have h22 := h22.mono S56
          have h25 := S56 _ _ h25
          have h51 := S56 _ _ h51
          have h58 : R (a := (Str × Str)) F54 (.ref p52) (("so" : Str), ("more" : Str)) := R.t2 h57 R.str R.str
          obtain ⟨p59, v62, v63, e60, h61, r64, r65⟩ := R.t2_ h58
          cases e60
          obtain rfl := R.str_ r64
          obtain rfl := R.str_ r65
          refine ⟨_, _, _, _, R.str, rfl, (.inr (O55.s _ _ h61)), (RL.mono (RL.cons R.str (RL.cons R.str RL.nil)) O55.s), _, rfl, ?_⟩
          refine iteD (fun q66 => ?_) (fun q66 => ?_)
          · have hk := wp_if hk q66
            obtain ⟨p67, w68, e69, h70⟩ := R.sm_ f_told
            cases e69
            obtain ⟨p71, w72, e73, h74, hl75⟩ := f_known
            cases e73
            have h74 : F54 _ = some (.dK w72) := h74
            obtain ⟨y76, e77, hk⟩ := wp_opt hk
            obtain ⟨w78, e79, r80⟩ := RD.some hl75 (k := (Sm.word x_told)) e77
            obtain ⟨y81, e82, hk⟩ := wp_opt hk
            obtain ⟨p83, w84, e85, h86⟩ := R.sm_int f_told e82
            cases e85
            obtain ⟨y87, e88, hk⟩ := wp_opt hk
            have r89 := R.il_l r80 e88
            obtain ⟨p90, w91, e92, h93, hl94⟩ := R.lst_ r89
            cases e92
            obtain ⟨y95, e96, hk⟩ := wp_opt hk
            obtain ⟨w97, e98, r99⟩ := hl94.atI e96
            obtain rfl := R.int_ r99
            refine ⟨_, rfl, _, rfl, _, _, _, _, rfl, rfl, (SqTF O55.s h70), (atI0 _ _), _, _, rfl, (dget_S (O55.s _ _ h74) e79), _, rfl, _, _, _, _, rfl, rfl, (SqTF O55.s h86), rfl, _, _, _, _, rfl, rfl, (SqLF O55.s h93), e98, ?_⟩
            exact hk _ _  O55.g 
          · have hk := wp_el hk q66
            obtain ⟨y100, e101, hk⟩ := wp_opt hk
            obtain ⟨p102, w103, v104, v105, e106, h107, r108, r109⟩ := R.sm_two f_told e101
            cases e106
            refine ⟨_, rfl, _, rfl, _, _, rfl, (SqTF O55.s h107), (sl3 _ _ _), fun p110 hp111 => ?_⟩
            obtain ⟨F112, O113, S114, h115⟩ := O55.putE hp111 (.tup [v104, v105])
            have f_told := f_told.mono S114
            have f_known := f_known.mono S114
            have h4 := S114 _ _ h4
            have h15 := S114 _ _ h15
            have h22 := h22.mono S114
            have h25 := S114 _ _ h25
            have h51 := S114 _ _ h51
            have h58 := h58.mono S114
            have h61 := S114 _ _ h61
            have h107 := S114 _ _ h107
            have r108 := r108.mono S114
            have r109 := r109.mono S114
            have hl116 : RL (a := Sm) F112 [v104, v105] [y100.1, y100.2] := RL.cons r108 (RL.cons r109 RL.nil)
            obtain ⟨c122, L118, hL119, hLs120, hLd121⟩ := compS_L hk
            refine ⟨_, rfl, ⟨_, (SqTF O113.s h115)⟩, fun p123 hp124 => ?_⟩
            have z146 := O113.was hp124
            refine lc_tup (K := K) (xs := [v104, v105]) (fun i H => ∃ (F_ : Hp) (st : Unit) (acc : List Int) (wa : List V), Same F112 F_ ∧ Ow _ F_ [(p123, .lst wa)] H ∧ RL F_ wa acc ∧ wa.length ≤ i ∧ L118 (List.drop i ([y100.1, y100.2])) acc st) ⟨F112, (), [], [], Same.refl _, O113.new hp124, RL.nil, Nat.zero_le _, hL119⟩ (fun i_ H_ _ hp_ => ?_) ?_ ?_
            · obtain ⟨_, _, _, _, hS_, hO_, _⟩ := hp_
              exact SqTF hO_.s (hS_ _ _ h115)
            · rintro i125 x126 H127 hi128 ⟨F133, st134, acc130, wa131, S135, O137, hl136, la132, hL119⟩
              have f_told := f_told.mono S135
              have f_known := f_known.mono S135
              have h4 := S135 _ _ h4
              have h15 := S135 _ _ h15
              have h22 := h22.mono S135
              have h25 := S135 _ _ h25
              have h51 := S135 _ _ h51
              have h58 := h58.mono S135
              have h61 := S135 _ _ h61
              have h107 := S135 _ _ h107
              have r108 := r108.mono S135
              have r109 := r109.mono S135
              have h115 := S135 _ _ h115
              have hl116 := hl116.mono S135
              obtain ⟨y117, e138, r139⟩ := RL.got hl116 hi128
              rw [drop_at e138] at hL119
              have hk := hLs120 _ _ _ _ hL119
              refine ⟨rfl, ?_⟩
              refine ⟨_, rfl, _, rfl, _, _, _, _, _, rfl, O137.pre0, r139, f_known, wp_call hk (fun r140 er141 hk F142 H143 g144 => ?_) (fun n hn => hn.elim)⟩
              have O145 := O137.call0 g144
              have S_ := g144.f
              have f_told := f_told.mono S_
              have f_known := f_known.mono S_
              have h4 := S_ _ _ h4
              have h15 := S_ _ _ h15
              have h22 := h22.mono S_
              have h25 := S_ _ _ h25
              have h51 := S_ _ _ h51
              have h58 := h58.mono S_
              have h61 := S_ _ _ h61
              have h107 := S_ _ _ h107
              have r108 := r108.mono S_
              have r109 := r109.mono S_
              have h115 := S_ _ _ h115
              have hl116 := hl116.mono S_
              have S135 := S135.trans S_
              have hl136 := hl136.mono S_
              have r139 := r139.mono S_
              refine ⟨_, (O145.at 0 rfl), (comp_len la132 hi128 hl116.len c122), ?_⟩
              exact ⟨F142, (), acc130 ++ [r140], wa131 ++ [V.int r140], S135, O145.set 0 (.lst (wa131 ++ [V.int r140])) rfl, RL.snoc hl136 R.int, by rw [List.length_append]; exact Nat.succ_le_succ la132, hk⟩
            rintro H147 ⟨F148, st149, acc150, wa151, S152, O153, hl154, la155, hL156⟩
            rw [drop_end hl116.len] at hL156
            have hk := hLd121 _ _ hL156
            have f_told := f_told.mono S152
            have f_known := f_known.mono S152
            have h4 := S152 _ _ h4
            have h15 := S152 _ _ h15
            have h22 := h22.mono S152
            have h25 := S152 _ _ h25
            have h51 := S152 _ _ h51
            have h58 := h58.mono S152
            have h61 := S152 _ _ h61
            have h107 := S152 _ _ h107
            have r108 := r108.mono S152
            have r109 := r109.mono S152
            have h115 := S152 _ _ h115
            have hl116 := hl116.mono S152
            obtain ⟨F158, O159, S160, h161⟩ := O153.frzE 0 rfl z146
            have f_told := f_told.mono S160
            have f_known := f_known.mono S160
            have h4 := S160 _ _ h4
            have h15 := S160 _ _ h15
            have h22 := h22.mono S160
            have h25 := S160 _ _ h25
            have h51 := S160 _ _ h51
            have h58 := h58.mono S160
            have h61 := S160 _ _ h61
            have h107 := S160 _ _ h107
            have r108 := r108.mono S160
            have r109 := r109.mono S160
            have h115 := S160 _ _ h115
            have hl116 := hl116.mono S160
            have hl154 := hl154.mono S160
            have h162 := R.lst (a := Int) h161 hl154
            obtain ⟨p163, w164, e165, h166, hl167⟩ := R.lst_ h162
            cases e165
            obtain ⟨x168, y169, e170, hk⟩ := wp_two2 hk
            have hl171 : RL (a := Int) F158 w164 [x168, y169] := by rw [← e170]; exact hl167
            obtain ⟨w172, w173, e174, r175, q176⟩ := RL.cons_ hl171
            obtain ⟨w177, w178, e179, r180, q181⟩ := RL.cons_ q176
            rw [e179, RL.nil_ q181] at e174
            obtain rfl := R.int_ r175
            obtain rfl := R.int_ r180
            refine ⟨_, _, rfl, (SqLF O159.s h166), (by rw [e174]; rfl), ?_⟩
            rw [e174]
            obtain ⟨p183, w184, e185, h186⟩ := R.sm_ f_told
            cases e185
            refine ⟨_, _, rfl, _, _, rfl, rfl, _, rfl, _, _, _, _, rfl, rfl, (SqTF O159.s h186), (atI0 _ _), _, _, R.str, R.str, _, rfl, ?_⟩
            refine iteD (fun q187 => ?_) (fun q187 => ?_)
            · have hk := wp_if hk q187
              obtain ⟨c188, hk⟩ := wp_chk hk
              refine ⟨_, rfl, _, rfl, _, _, rfl, rfl, c188, ?_⟩
              exact hk _ _  O159.g 
            · have hk := wp_el hk q187
              obtain ⟨p189, w190, e191, h192⟩ := R.sm_ f_told
              cases e191
              refine ⟨_, rfl, _, _, _, _, rfl, rfl, (SqTF O159.s h192), (atI0 _ _), (by show 2 ≤ sizeLine; decide), fun p193 hp194 => ?_⟩
              obtain ⟨F195, O196, S197, h198⟩ := O159.putE hp194 (.tup [V.str ("plus" : Str), V.str ("less" : Str)])
              have f_told := f_told.mono S197
              have f_known := f_known.mono S197
              have h4 := S197 _ _ h4
              have h15 := S197 _ _ h15
              have h22 := h22.mono S197
              have h25 := S197 _ _ h25
              have h51 := S197 _ _ h51
              have h58 := h58.mono S197
              have h61 := S197 _ _ h61
              have h107 := S197 _ _ h107
              have r108 := r108.mono S197
              have r109 := r109.mono S197
              have h115 := S197 _ _ h115
              have hl116 := hl116.mono S197
              have h162 := h162.mono S197
              have h166 := S197 _ _ h166
              have h186 := S197 _ _ h186
              have h192 := S197 _ _ h192
              have h199 : R (a := (Str × Str)) F195 (.ref p193) (("plus" : Str), ("less" : Str)) := R.t2 h198 R.str R.str
              obtain ⟨p200, v203, v204, e201, h202, r205, r206⟩ := R.t2_ h199
              cases e201
              obtain rfl := R.str_ r205
              obtain rfl := R.str_ r206
              refine ⟨_, _, _, _, R.str, rfl, (.inr (O196.s _ _ h202)), (RL.mono (RL.cons R.str (RL.cons R.str RL.nil)) O196.s), _, rfl, ?_⟩
              refine iteD (fun q207 => ?_) (fun q207 => ?_)
              · have hk := wp_if hk q207
                refine ⟨_, rfl, _, rfl, (by show 2 ≤ sizeLine; decide), fun p208 hp209 => ?_⟩
                have hl215 : RL (a := Int) F195 ([V.int (1 : Int), V.int (-(1 : Int))]) ([(1 : Int), (-(1 : Int))]) := RL.cons R.int (RL.cons R.int RL.nil)
                obtain ⟨F210, O211, S212, h213⟩ := O196.putE hp209 (.lst ([V.int (1 : Int), V.int (-(1 : Int))]))
                have f_told := f_told.mono S212
                have f_known := f_known.mono S212
                have h4 := S212 _ _ h4
                have h15 := S212 _ _ h15
                have h22 := h22.mono S212
                have h25 := S212 _ _ h25
                have h51 := S212 _ _ h51
                have h58 := h58.mono S212
                have h61 := S212 _ _ h61
                have h107 := S212 _ _ h107
                have r108 := r108.mono S212
                have r109 := r109.mono S212
                have h115 := S212 _ _ h115
                have hl116 := hl116.mono S212
                have h162 := h162.mono S212
                have h166 := S212 _ _ h166
                have h186 := S212 _ _ h186
                have h192 := S212 _ _ h192
                have h199 := h199.mono S212
                have h202 := S212 _ _ h202
                have hl215 := hl215.mono S212
                have h214 := R.lst (a := Int) h213 hl215
                obtain ⟨p216, w217, e218, h219⟩ := R.sm_ f_told
                cases e218
                obtain ⟨p220, w221, e222, h223, hl224⟩ := R.lst_ h214
                cases e222
                obtain ⟨y225, e226, hk⟩ := wp_opt hk
                obtain ⟨w227, e228, r229⟩ := hl224.atI e226
                obtain rfl := R.int_ r229
                obtain ⟨c230, hk⟩ := wp_chk hk
                refine ⟨_, rfl, _, _, _, _, rfl, rfl, (SqTF O211.s h219), (atI0 _ _), _, _, R.str, R.str, _, rfl, _, _, _, _, rfl, rfl, (SqLF O211.s h223), e228, _, rfl, _, _, rfl, rfl, c230, _, _, rfl, rfl, ?_⟩
                exact hk _ _  O211.g 
              · have hk := wp_el hk q207
                refine ⟨_, rfl, _, rfl, (by show 2 ≤ sizeLine; decide), fun p231 hp232 => ?_⟩
                have hl238 : RL (a := Int) F195 ([V.int x168, V.int y169]) ([x168, y169]) := RL.cons R.int (RL.cons R.int RL.nil)
                obtain ⟨F233, O234, S235, h236⟩ := O196.putE hp232 (.lst ([V.int x168, V.int y169]))
                have f_told := f_told.mono S235
                have f_known := f_known.mono S235
                have h4 := S235 _ _ h4
                have h15 := S235 _ _ h15
                have h22 := h22.mono S235
                have h25 := S235 _ _ h25
                have h51 := S235 _ _ h51
                have h58 := h58.mono S235
                have h61 := S235 _ _ h61
                have h107 := S235 _ _ h107
                have r108 := r108.mono S235
                have r109 := r109.mono S235
                have h115 := S235 _ _ h115
                have hl116 := hl116.mono S235
                have h162 := h162.mono S235
                have h166 := S235 _ _ h166
                have h186 := S235 _ _ h186
                have h192 := S235 _ _ h192
                have h199 := h199.mono S235
                have h202 := S235 _ _ h202
                have hl238 := hl238.mono S235
                have h237 := R.lst (a := Int) h236 hl238
                obtain ⟨p239, w240, e241, h242, hl243⟩ := R.lst_ h237
                cases e241
                refine ⟨_, _, _, rfl, (O234.s _ _ h242), (RL.mono hl243 O234.s), fun p244 hp245 => ?_⟩
                have hl251 : RL (a := Int) F233 (sortV w240 ([x168, y169])) (sortT ([x168, y169])) := (RL.sorted hl243)
                obtain ⟨F246, O247, S248, h249⟩ := O234.putE hp245 (.lst (sortV w240 ([x168, y169])))
                have f_told := f_told.mono S248
                have f_known := f_known.mono S248
                have h4 := S248 _ _ h4
                have h15 := S248 _ _ h15
                have h22 := h22.mono S248
                have h25 := S248 _ _ h25
                have h51 := S248 _ _ h51
                have h58 := h58.mono S248
                have h61 := S248 _ _ h61
                have h107 := S248 _ _ h107
                have r108 := r108.mono S248
                have r109 := r109.mono S248
                have h115 := S248 _ _ h115
                have hl116 := hl116.mono S248
                have h162 := h162.mono S248
                have h166 := S248 _ _ h166
                have h186 := S248 _ _ h186
                have h192 := S248 _ _ h192
                have h199 := h199.mono S248
                have h202 := S248 _ _ h202
                have h237 := h237.mono S248
                have h242 := S248 _ _ h242
                have hl243 := hl243.mono S248
                have hl251 := hl251.mono S248
                have h250 := R.lst (a := Int) h249 hl251
                obtain ⟨p252, w253, e254, h255⟩ := R.sm_ f_told
                cases e254
                obtain ⟨p256, w257, e258, h259, hl260⟩ := R.lst_ h250
                cases e258
                obtain ⟨y261, e262, hk⟩ := wp_opt hk
                obtain ⟨w263, e264, r265⟩ := hl260.atI e262
                obtain rfl := R.int_ r265
                refine ⟨_, rfl, _, _, _, _, rfl, rfl, (SqTF O247.s h255), (atI0 _ _), _, _, R.str, R.str, _, rfl, _, _, _, _, rfl, rfl, (SqLF O247.s h259), e264, ?_⟩
                exact hk _ _  O247.g 
abbrev s_law_any_sum : Stmt := top 12
theorem sc_law_any_sum : FnScope ["deck", "deep", "way", "one", "word"] ["deck", "deep"] (defScope s_law_any_sum) := ⟨rfl, rfl, rfl, by decide +kernel, rfl, by decide +kernel, by decide +kernel⟩
def m_law_any_sum : Nat → (List Int) → Int → M (Sm × (List Int))
  | 0, _, _ => bad
  | k_ + 1, x_deck, x_deep =>
    m_law_take x_deck (9 : Int) >>= fun r1 =>
    if x_deep = (0 : Int) then (
    m_law_leaf r1.2 ([("own" : Str), ("tie" : Str), ("so" : Str), ("more" : Str)]) (3 : Int) >>= fun r19 =>
    .ok (r19.1, r19.2))
    else (
    if r1.1 < (3 : Int) then (
    m_law_leaf r1.2 ([("own" : Str), ("tie" : Str), ("so" : Str), ("more" : Str)]) (3 : Int) >>= fun r39 =>
    .ok (r39.1, r39.2))
    else (
    m_law_any_sum k_ r1.2 (x_deep - (1 : Int)) >>= fun r50 =>
    opt (atI ([("plus" : Str), ("less" : Str), ("times" : Str), ("most" : Str), ("least" : Str), ("least" : Str)]) (r1.1 - (3 : Int))) >>= fun y74 =>
    m_law_any_sum k_ r50.2 (x_deep - (1 : Int)) >>= fun r79 =>
    .ok ((Sm.two (T3.mk y74 r50.1 r79.1).a (T3.mk y74 r50.1 r79.1).b (T3.mk y74 r50.1 r79.1).c), r79.2)))
def sp_law_any_sum (k_ : Nat) (mg : Str → Option Value) : Sp := fun vs H Q E => ∃ (F : Hp) (a_deck : Addr) (w_deck : (List V)) (x_deck : (List Int)) (x_deep : Int), vs = [.ref a_deck, V.int x_deep] ∧ Pre F [(a_deck, .lst w_deck)] H ∧ RL (a := Int) F w_deck x_deck ∧
  wp (m_law_any_sum k_ x_deck x_deep) (fun r => ∀ (F' H' : Hp) (w0 : (List V)), Gr [a_deck] F H F' H' → H' a_deck = some (.lst w0) → RL (a := Int) F' w0 r.2 → ∀ v : V, R (a := Sm) F' v r.1 → Q v H')
  (fun n => ∀ (C : Addr) (H' : Hp), mg (Str.ofString n) = some (.ref C) → Kp [a_deck] H H' → E (.ref C) none H')
set_option maxHeartbeats 2000000 in
theorem ok_law_any_sum (nb : Nb mg) (C_law_leaf : Ca P w K mg base "_law_leaf" 2 ["deck", "leaves", "many"] (sp_law_leaf mg)) (C_law_take : Ca P w K mg base "_law_take" 1 ["deck", "many"] (sp_law_take mg)) (D : Df K mg "_law_any_sum" "_law_any_sum" s_law_any_sum ["deck", "deep"]) : ∀ k_ : Nat, Ca P w K mg base "_law_any_sum" (k_ + 3) ["deck", "deep"] (sp_law_any_sum k_ mg) := by
  intro k_
  induction k_ with
  | zero =>
    refine Ca.mk' D sc_law_any_sum (fun vs H Q E h => ?_) (fun q_ f_ cdv A outer s H vs Q E hr h => ?_)
    · obtain ⟨F, _, _, _, _, rfl, _⟩ := h
      rfl
    · obtain ⟨F, _, _, _, _, rfl, _, _, hk⟩ := h
      exact hk.elim
  | succ k_ ih_ =>
    have C_law_any_sum := ih_
    obtain ⟨fa_law_leaf, fd_law_leaf, G_law_leaf, M_law_leaf, K_law_leaf, B_law_leaf⟩ := C_law_leaf.ex
    obtain ⟨fa_law_take, fd_law_take, G_law_take, M_law_take, K_law_take, B_law_take⟩ := C_law_take.ex
    obtain ⟨fa_law_any_sum, fd_law_any_sum, G_law_any_sum, M_law_any_sum, K_law_any_sum, B_law_any_sum⟩ := C_law_any_sum.ex
    refine Ca.mk' D sc_law_any_sum (fun vs H Q E h => ?_) (fun q_ f_ cdv A outer s H vs Q E hr h => ?_)
    · obtain ⟨F, _, _, _, _, rfl, _⟩ := h
      rfl
    · obtain ⟨F, a_deck, w_deck, x_deck, x_deep, rfl, P0, f_deck, hk⟩ := h
      have nd := sc_law_any_sum.nd
      have hu64 := hr.units
      have hu128 := hu128_of hr
      have O := P0.start
      refine ⟨_, (pss_cons (ps_set (i := 2) nd rfl (Or.inl rfl) (pe_call G_law_take (hr.mono (by omega)) rfl M_law_take K_law_take B_law_take .nil (passes_call (takes_of rfl rfl rfl rfl) fun _ _ _ _ h => h) (pa_cons (pv 0) (pa_cons pe_int pa_nil))))
  (pss_cons (ps_if (PW.pt (pw_or (pt_cmpR (op_eqT Int hu64) (pv 1) pe_int (nomark _)) (pw_or1 (pt_cmpR op_lt (pv 2) pe_int (nomark _))))) (pss_one (ps_ret (pe_call G_law_leaf (hr.mono (by omega)) rfl M_law_leaf K_law_leaf B_law_leaf .nil (passes_call (takes_of rfl rfl rfl rfl) fun _ _ _ _ h => h) (pa_cons (pv 0) (pa_cons (pe_lst (pa_cons pe_str (pa_cons pe_str (pa_cons pe_str (pa_cons pe_str pa_nil))))) (pa_cons pe_int pa_nil)))))) pss_nil)
  (pss_cons (ps_set (i := 3) nd rfl (Or.inl rfl) (pe_call G_law_any_sum (hr.mono (by omega)) rfl M_law_any_sum K_law_any_sum B_law_any_sum .nil (passes_call (takes_of rfl rfl rfl rfl) fun _ _ _ _ h => h) (pa_cons (pv 0) (pa_cons (pe_op op_sub (pv 1) pe_int) pa_nil))))
  (pss_cons (ps_set (i := 4) nd rfl (Or.inl rfl) (pe_ix (ixListK (K := K) rfl) (pe_lst (pa_cons pe_str (pa_cons pe_str (pa_cons pe_str (pa_cons pe_str (pa_cons pe_str (pa_cons pe_str pa_nil))))))) (pe_op op_sub (pv 2) pe_int) (fun _ _ => rfl)))
  (pss_one (ps_ret (pe_tup (pa_cons (pv 4) (pa_cons (pv 3) (pa_cons (pe_call G_law_any_sum (hr.mono (by omega)) rfl M_law_any_sum K_law_any_sum B_law_any_sum .nil (passes_call (takes_of rfl rfl rfl rfl) fun _ _ _ _ h => h) (pa_cons (pv 0) (pa_cons (pe_op op_sub (pv 1) pe_int) pa_nil))) pa_nil)))))))))), ?_⟩
      refine ⟨_, rfl, _, _, _, _, _, rfl, (O.pre1 0 rfl), f_deck, wp_call hk (fun r1 er2 hk F3 H4 w6 g5 h7 hl8 => ?_) (fun n hn C H1 hC kp => hn C H1 hC (O.kp1 kp 0 rfl))⟩
      have O9 := O.call1 g5 0 rfl h7
      have S_ := g5.f
      refine ⟨_, rfl, _, _, R.int, R.int, _, rfl, ?_⟩
      refine iteD (fun q10 => ?_) (fun q10 => ?_)
      · have hk := wp_if hk q10
        refine iteT ?_
        refine ⟨_, rfl, (by show 4 ≤ sizeLine; decide), fun p11 hp12 => ?_⟩
        have hl18 : RL (a := Str) F3 ([V.str ("own" : Str), V.str ("tie" : Str), V.str ("so" : Str), V.str ("more" : Str)]) ([("own" : Str), ("tie" : Str), ("so" : Str), ("more" : Str)]) := RL.cons R.str (RL.cons R.str (RL.cons R.str (RL.cons R.str RL.nil)))
        obtain ⟨F13, O14, S15, h16⟩ := O9.putE hp12 (.lst ([V.str ("own" : Str), V.str ("tie" : Str), V.str ("so" : Str), V.str ("more" : Str)]))
        have hl8 := hl8.mono S15
        have hl18 := hl18.mono S15
        have h17 := R.lst (a := Str) h16 hl18
        refine ⟨_, _, _, _, _, _, _, rfl, (O14.pre1 0 rfl), hl8, h17, wp_call hk (fun r19 er20 hk F21 H22 w24 g23 h25 hl26 v27 r28 => ?_) (fun n hn C H1 hC kp => hn C H1 hC (O14.kp1 kp 0 rfl))⟩
        have O29 := O14.call1 g23 0 rfl h25
        have S_ := g23.f
        have h17 := h17.mono S_
        exact hk _ _ w24 O29.g (O29.at 0 rfl) hl26 _ r28
      · have hk := wp_el hk q10
        refine ⟨_, rfl, _, _, rfl, rfl, _, rfl, ?_⟩
        refine iteD (fun q30 => ?_) (fun q30 => ?_)
        · have hk := wp_if hk q30
          refine ⟨_, rfl, (by show 4 ≤ sizeLine; decide), fun p31 hp32 => ?_⟩
          have hl38 : RL (a := Str) F3 ([V.str ("own" : Str), V.str ("tie" : Str), V.str ("so" : Str), V.str ("more" : Str)]) ([("own" : Str), ("tie" : Str), ("so" : Str), ("more" : Str)]) := RL.cons R.str (RL.cons R.str (RL.cons R.str (RL.cons R.str RL.nil)))
          obtain ⟨F33, O34, S35, h36⟩ := O9.putE hp32 (.lst ([V.str ("own" : Str), V.str ("tie" : Str), V.str ("so" : Str), V.str ("more" : Str)]))
          have hl8 := hl8.mono S35
          have hl38 := hl38.mono S35
          have h37 := R.lst (a := Str) h36 hl38
          refine ⟨_, _, _, _, _, _, _, rfl, (O34.pre1 0 rfl), hl8, h37, wp_call hk (fun r39 er40 hk F41 H42 w44 g43 h45 hl46 v47 r48 => ?_) (fun n hn C H1 hC kp => hn C H1 hC (O34.kp1 kp 0 rfl))⟩
          have O49 := O34.call1 g43 0 rfl h45
          have S_ := g43.f
          have h37 := h37.mono S_
          exact hk _ _ w44 O49.g (O49.at 0 rfl) hl46 _ r48
        · have hk := wp_el hk q30
          refine ⟨_, rfl, _, rfl, _, _, rfl, rfl, _, _, _, _, _, rfl, (O9.pre1 0 rfl), hl8, wp_call hk (fun r50 er51 hk F52 H53 w55 g54 h56 hl57 v58 r59 => ?_) (fun n hn C H1 hC kp => hn C H1 hC (O9.kp1 kp 0 rfl))⟩
          have O60 := O9.call1 g54 0 rfl h56
          have S_ := g54.f
          refine ⟨(by show 6 ≤ sizeLine; decide), fun p61 hp62 => ?_⟩
          have hl68 : RL (a := Str) F52 ([V.str ("plus" : Str), V.str ("less" : Str), V.str ("times" : Str), V.str ("most" : Str), V.str ("least" : Str), V.str ("least" : Str)]) ([("plus" : Str), ("less" : Str), ("times" : Str), ("most" : Str), ("least" : Str), ("least" : Str)]) := RL.cons R.str (RL.cons R.str (RL.cons R.str (RL.cons R.str (RL.cons R.str (RL.cons R.str RL.nil)))))
          obtain ⟨F63, O64, S65, h66⟩ := O60.putE hp62 (.lst ([V.str ("plus" : Str), V.str ("less" : Str), V.str ("times" : Str), V.str ("most" : Str), V.str ("least" : Str), V.str ("least" : Str)]))
          have hl57 := hl57.mono S65
          have r59 := r59.mono S65
          have hl68 := hl68.mono S65
          have h67 := R.lst (a := Str) h66 hl68
          obtain ⟨p69, w70, e71, h72, hl73⟩ := R.lst_ h67
          cases e71
          obtain ⟨y74, e75, hk⟩ := wp_opt hk
          obtain ⟨w76, e77, r78⟩ := hl73.atI e75
          obtain rfl := R.str_ r78
          refine ⟨_, rfl, _, _, rfl, rfl, _, _, _, _, rfl, rfl, (SqLF O64.s h72), e77, _, rfl, _, rfl, _, rfl, _, rfl, _, _, rfl, rfl, _, _, _, _, _, rfl, (O64.pre1 0 rfl), hl57, wp_call hk (fun r79 er80 hk F81 H82 w84 g83 h85 hl86 v87 r88 => ?_) (fun n hn C H1 hC kp => hn C H1 hC (O64.kp1 kp 0 rfl))⟩
          have O89 := O64.call1 g83 0 rfl h85
          have S_ := g83.f
          have r59 := r59.mono S_
          have h67 := h67.mono S_
          have h72 := S_ _ _ h72
          have hl73 := hl73.mono S_
          refine ⟨(by show 3 ≤ sizeLine; decide), fun p90 hp91 => ?_⟩
          obtain ⟨F92, O93, S94, h95⟩ := O89.putE hp91 (.tup [V.str y74, v58, v87])
          have r59 := r59.mono S94
          have h67 := h67.mono S94
          have h72 := S94 _ _ h72
          have hl73 := hl73.mono S94
          have hl86 := hl86.mono S94
          have r88 := r88.mono S94
          have h96 : R (a := (T3 Str Sm Sm)) F92 (.ref p90) (T3.mk y74 r50.1 r79.1) := R.t3 h95 R.str r59 r88
          exact hk _ _ w84 O93.g (O93.at 0 rfl) hl86 _ (R.of_two h96)
abbrev s_law_chain : Stmt := top 13
theorem sc_law_chain : FnScope ["deck", "told", "k", "word", "other"] ["deck"] (defScope s_law_chain) := ⟨rfl, rfl, rfl, by decide +kernel, rfl, by decide +kernel, by decide +kernel⟩
def m_law_chain (x_deck : (List Int)) : M (Sm × (List Int)) :=
m_law_leaf x_deck ([("own" : Str), ("tie" : Str), ("so" : Str), ("more" : Str)]) (3 : Int) >>= fun r9 =>
chk (okR (9 : Int)) >>= fun _ =>
loopN (fun (y20 : Int) (st32 : Sm × (List Int)) =>
m_law_take st32.2 (5 : Int) >>= fun r50 =>
opt (atI ([("plus" : Str), ("less" : Str), ("times" : Str), ("most" : Str), ("least" : Str)]) r50.1) >>= fun y64 =>
m_law_leaf r50.2 ([("own" : Str), ("tie" : Str), ("so" : Str), ("more" : Str)]) (3 : Int) >>= fun r77 =>
m_law_take r77.2 (2 : Int) >>= fun r110 =>
opt (atI ([(T3.mk y64 st32.1 r77.1), (T3.mk y64 r77.1 st32.1)]) r110.1) >>= fun y124 =>
.ok ((Sm.two y124.a y124.b y124.c), r110.2)) (rangeL 0 (9 : Int)) (r9.1, r9.2) >>= fun st132 =>
.ok (st132.1, st132.2)
def sp_law_chain (mg : Str → Option Value) : Sp := fun vs H Q E => ∃ (F : Hp) (a_deck : Addr) (w_deck : (List V)) (x_deck : (List Int)), vs = [.ref a_deck] ∧ Pre F [(a_deck, .lst w_deck)] H ∧ RL (a := Int) F w_deck x_deck ∧
  wp (m_law_chain x_deck) (fun r => ∀ (F' H' : Hp) (w0 : (List V)), Gr [a_deck] F H F' H' → H' a_deck = some (.lst w0) → RL (a := Int) F' w0 r.2 → ∀ v : V, R (a := Sm) F' v r.1 → Q v H')
  (fun n => ∀ (C : Addr) (H' : Hp), mg (Str.ofString n) = some (.ref C) → Kp [a_deck] H H' → E (.ref C) none H')
set_option maxHeartbeats 2000000 in
theorem ok_law_chain (nb : Nb mg) (C_law_leaf : Ca P w K mg base "_law_leaf" 2 ["deck", "leaves", "many"] (sp_law_leaf mg)) (C_law_take : Ca P w K mg base "_law_take" 1 ["deck", "many"] (sp_law_take mg)) (D : Df K mg "_law_chain" "_law_chain" s_law_chain ["deck"]) : Ca P w K mg base "_law_chain" 3 ["deck"] (sp_law_chain mg) := by
  obtain ⟨fa_law_leaf, fd_law_leaf, G_law_leaf, M_law_leaf, K_law_leaf, B_law_leaf⟩ := C_law_leaf.ex
  obtain ⟨fa_law_take, fd_law_take, G_law_take, M_law_take, K_law_take, B_law_take⟩ := C_law_take.ex
  refine Ca.mk' D sc_law_chain (fun vs H Q E h => ?_) (fun q_ f_ cdv A outer s H vs Q E hr h => ?_)
  · obtain ⟨F, _, _, _, rfl, _⟩ := h
    rfl
  · obtain ⟨F, a_deck, w_deck, x_deck, rfl, P0, f_deck, hk⟩ := h
    have nd := sc_law_chain.nd
    have hu64 := hr.units
    have hu128 := hu128_of hr
    have O := P0.start
    refine ⟨_, (pss_cons (ps_set (i := 1) nd rfl (Or.inl rfl) (pe_call G_law_leaf (hr.mono (by decide)) rfl M_law_leaf K_law_leaf B_law_leaf .nil (passes_call (takes_of rfl rfl rfl rfl) fun _ _ _ _ h => h) (pa_cons (pv 0) (pa_cons (pe_lst (pa_cons pe_str (pa_cons pe_str (pa_cons pe_str (pa_cons pe_str pa_nil))))) (pa_cons pe_int pa_nil)))))
  (pss_cons (ps_for (passes_of rfl) rfl (pi_range1 rfl nb.b_range (pa_cons pe_int pa_nil)) (pg_name (i := 2) nd rfl (Or.inl rfl)) (pss_cons (ps_set (i := 3) nd rfl (Or.inl rfl) (pe_ix (ixListK (K := K) rfl) (pe_lst (pa_cons pe_str (pa_cons pe_str (pa_cons pe_str (pa_cons pe_str (pa_cons pe_str pa_nil)))))) (pe_call G_law_take (hr.mono (by decide)) rfl M_law_take K_law_take B_law_take .nil (passes_call (takes_of rfl rfl rfl rfl) fun _ _ _ _ h => h) (pa_cons (pv 0) (pa_cons pe_int pa_nil))) (fun _ _ => rfl)))
  (pss_cons (ps_set (i := 4) nd rfl (Or.inl rfl) (pe_call G_law_leaf (hr.mono (by decide)) rfl M_law_leaf K_law_leaf B_law_leaf .nil (passes_call (takes_of rfl rfl rfl rfl) fun _ _ _ _ h => h) (pa_cons (pv 0) (pa_cons (pe_lst (pa_cons pe_str (pa_cons pe_str (pa_cons pe_str (pa_cons pe_str pa_nil))))) (pa_cons pe_int pa_nil)))))
  (pss_one (ps_set (i := 1) nd rfl (Or.inl rfl) (pe_ix (ixListK (K := K) rfl) (pe_lst (pa_cons (pe_tup (pa_cons (pv 3) (pa_cons (pv 1) (pa_cons (pv 4) pa_nil)))) (pa_cons (pe_tup (pa_cons (pv 3) (pa_cons (pv 4) (pa_cons (pv 1) pa_nil)))) pa_nil))) (pe_call G_law_take (hr.mono (by decide)) rfl M_law_take K_law_take B_law_take .nil (passes_call (takes_of rfl rfl rfl rfl) fun _ _ _ _ h => h) (pa_cons (pv 0) (pa_cons pe_int pa_nil))) (fun _ _ => rfl)))))))
  (pss_one (ps_ret (pv 1))))), ?_⟩
    refine ⟨_, rfl, (by show 4 ≤ sizeLine; decide), fun p1 hp2 => ?_⟩
    have hl8 : RL (a := Str) F ([V.str ("own" : Str), V.str ("tie" : Str), V.str ("so" : Str), V.str ("more" : Str)]) ([("own" : Str), ("tie" : Str), ("so" : Str), ("more" : Str)]) := RL.cons R.str (RL.cons R.str (RL.cons R.str (RL.cons R.str RL.nil)))
    obtain ⟨F3, O4, S5, h6⟩ := O.putE hp2 (.lst ([V.str ("own" : Str), V.str ("tie" : Str), V.str ("so" : Str), V.str ("more" : Str)]))
    have f_deck := f_deck.mono S5
    have hl8 := hl8.mono S5
    have h7 := R.lst (a := Str) h6 hl8
    refine ⟨_, _, _, _, _, _, _, rfl, (O4.pre1 0 rfl), f_deck, h7, wp_call hk (fun r9 er10 hk F11 H12 w14 g13 h15 hl16 v17 r18 => ?_) (fun n hn C H1 hC kp => hn C H1 hC (O4.kp1 kp 0 rfl))⟩
    have O19 := O4.call1 g13 0 rfl h15
    have S_ := g13.f
    have h7 := h7.mono S_
    obtain ⟨c21, hk⟩ := wp_chk hk
    obtain ⟨L22, hL23, hLs24, hLd25⟩ := loopN_L hk
    refine ⟨_, rfl, c21.lo, c21.hi, ?_⟩
    refine for_range (lo := 0) (n := ((9 : Int)).toNat) (fun i σ H => ∃ (F_ : Hp) (st : Sm × (List Int)) (v_0 : V) (w_0 : (List V)) (t_0 : Option V) (t_1 : Option V) (t_2 : Option V), σ = [some (V.ref a_deck), some v_0, t_0, t_1, t_2] ∧ Same F11 F_ ∧ Ow _ F_ [(a_deck, .lst w_0)] H ∧ R (a := Sm) F_ v_0 st.1 ∧ RL (a := Int) F_ w_0 st.2 ∧ L22 (List.drop i (rangeL 0 (9 : Int))) st) ⟨F11, (r9.1, r9.2), v17, w14, none, none, none, rfl, Same.refl _, O19, r18, hl16, hL23⟩ ?_ ?_
    · rintro i26 sg28 H29 hi30 ⟨F40, st32, v33, w35, t37, t38, t39, rfl, S31, O41, r34, hl36, hL23⟩
      have h7 := h7.mono S31
      have r18 := r18.mono S31
      rw [rangeL_get0 hi30] at hL23
      have hk := hLs24 _ _ _ hL23
      obtain ⟨y20, he_⟩ : ∃ z_, z_ = 0 + (i26 : Int) := ⟨_, rfl⟩
      try rw [← he_] at hk
      rw [← he_]
      refine ⟨(by show 5 ≤ sizeLine; decide), fun p42 hp43 => ?_⟩
      have hl49 : RL (a := Str) F40 ([V.str ("plus" : Str), V.str ("less" : Str), V.str ("times" : Str), V.str ("most" : Str), V.str ("least" : Str)]) ([("plus" : Str), ("less" : Str), ("times" : Str), ("most" : Str), ("least" : Str)]) := RL.cons R.str (RL.cons R.str (RL.cons R.str (RL.cons R.str (RL.cons R.str RL.nil))))
      obtain ⟨F44, O45, S46, h47⟩ := O41.putE hp43 (.lst ([V.str ("plus" : Str), V.str ("less" : Str), V.str ("times" : Str), V.str ("most" : Str), V.str ("least" : Str)]))
      have h7 := h7.mono S46
      have r18 := r18.mono S46
      have r34 := r34.mono S46
      have hl36 := hl36.mono S46
      have S31 := S31.trans S46
      have hl49 := hl49.mono S46
      have h48 := R.lst (a := Str) h47 hl49
      refine ⟨_, rfl, _, _, _, _, _, rfl, (O45.pre1 0 rfl), hl36, wp_call hk (fun r50 er51 hk F52 H53 w55 g54 h56 hl57 => ?_) (fun n hn C H1 hC kp => hn C H1 hC (O45.kp1 kp 0 rfl))⟩
      have O58 := O45.call1 g54 0 rfl h56
      have S_ := g54.f
      have h7 := h7.mono S_
      have r18 := r18.mono S_
      have r34 := r34.mono S_
      have S31 := S31.trans S_
      have h48 := h48.mono S_
      obtain ⟨p59, w60, e61, h62, hl63⟩ := R.lst_ h48
      cases e61
      obtain ⟨y64, e65, hk⟩ := wp_opt hk
      obtain ⟨w66, e67, r68⟩ := hl63.atI e65
      obtain rfl := R.str_ r68
      refine ⟨_, _, _, _, rfl, rfl, (SqLF O58.s h62), e67, _, rfl, (by show 4 ≤ sizeLine; decide), fun p69 hp70 => ?_⟩
      have hl76 : RL (a := Str) F52 ([V.str ("own" : Str), V.str ("tie" : Str), V.str ("so" : Str), V.str ("more" : Str)]) ([("own" : Str), ("tie" : Str), ("so" : Str), ("more" : Str)]) := RL.cons R.str (RL.cons R.str (RL.cons R.str (RL.cons R.str RL.nil)))
      obtain ⟨F71, O72, S73, h74⟩ := O58.putE hp70 (.lst ([V.str ("own" : Str), V.str ("tie" : Str), V.str ("so" : Str), V.str ("more" : Str)]))
      have h7 := h7.mono S73
      have r18 := r18.mono S73
      have r34 := r34.mono S73
      have S31 := S31.trans S73
      have h48 := h48.mono S73
      have hl57 := hl57.mono S73
      have h62 := S73 _ _ h62
      have hl63 := hl63.mono S73
      have hl76 := hl76.mono S73
      have h75 := R.lst (a := Str) h74 hl76
      refine ⟨_, _, _, _, _, _, _, rfl, (O72.pre1 0 rfl), hl57, h75, wp_call hk (fun r77 er78 hk F79 H80 w82 g81 h83 hl84 v85 r86 => ?_) (fun n hn C H1 hC kp => hn C H1 hC (O72.kp1 kp 0 rfl))⟩
      have O87 := O72.call1 g81 0 rfl h83
      have S_ := g81.f
      have h7 := h7.mono S_
      have r18 := r18.mono S_
      have r34 := r34.mono S_
      have S31 := S31.trans S_
      have h48 := h48.mono S_
      have h62 := S_ _ _ h62
      have hl63 := hl63.mono S_
      have h75 := h75.mono S_
      refine ⟨_, rfl, _, rfl, _, rfl, (by show 3 ≤ sizeLine; decide), fun p88 hp89 => ?_⟩
      obtain ⟨F90, O91, S92, h93⟩ := O87.putE hp89 (.tup [V.str y64, v33, v85])
      have h7 := h7.mono S92
      have r18 := r18.mono S92
      have r34 := r34.mono S92
      have S31 := S31.trans S92
      have h48 := h48.mono S92
      have h62 := S92 _ _ h62
      have hl63 := hl63.mono S92
      have h75 := h75.mono S92
      have hl84 := hl84.mono S92
      have r86 := r86.mono S92
      have h94 : R (a := (T3 Str Sm Sm)) F90 (.ref p88) (T3.mk y64 st32.1 r77.1) := R.t3 h93 R.str r34 r86
      refine ⟨_, rfl, _, rfl, _, rfl, (by show 3 ≤ sizeLine; decide), fun p95 hp96 => ?_⟩
      obtain ⟨F97, O98, S99, h100⟩ := O91.putE hp96 (.tup [V.str y64, v85, v33])
      have h7 := h7.mono S99
      have r18 := r18.mono S99
      have r34 := r34.mono S99
      have S31 := S31.trans S99
      have h48 := h48.mono S99
      have h62 := S99 _ _ h62
      have hl63 := hl63.mono S99
      have h75 := h75.mono S99
      have hl84 := hl84.mono S99
      have r86 := r86.mono S99
      have h94 := h94.mono S99
      have h101 : R (a := (T3 Str Sm Sm)) F97 (.ref p95) (T3.mk y64 r77.1 st32.1) := R.t3 h100 R.str r86 r34
      refine ⟨(by show 2 ≤ sizeLine; decide), fun p102 hp103 => ?_⟩
      have hl109 : RL (a := (T3 Str Sm Sm)) F97 ([V.ref p88, V.ref p95]) ([(T3.mk y64 st32.1 r77.1), (T3.mk y64 r77.1 st32.1)]) := RL.cons h94 (RL.cons h101 RL.nil)
      obtain ⟨F104, O105, S106, h107⟩ := O98.putE hp103 (.lst ([V.ref p88, V.ref p95]))
      have h7 := h7.mono S106
      have r18 := r18.mono S106
      have r34 := r34.mono S106
      have S31 := S31.trans S106
      have h48 := h48.mono S106
      have h62 := S106 _ _ h62
      have hl63 := hl63.mono S106
      have h75 := h75.mono S106
      have hl84 := hl84.mono S106
      have r86 := r86.mono S106
      have h94 := h94.mono S106
      have h101 := h101.mono S106
      have hl109 := hl109.mono S106
      have h108 := R.lst (a := (T3 Str Sm Sm)) h107 hl109
      refine ⟨_, rfl, _, _, _, _, _, rfl, (O105.pre1 0 rfl), hl84, wp_call hk (fun r110 er111 hk F112 H113 w115 g114 h116 hl117 => ?_) (fun n hn C H1 hC kp => hn C H1 hC (O105.kp1 kp 0 rfl))⟩
      have O118 := O105.call1 g114 0 rfl h116
      have S_ := g114.f
      have h7 := h7.mono S_
      have r18 := r18.mono S_
      have r34 := r34.mono S_
      have S31 := S31.trans S_
      have h48 := h48.mono S_
      have h62 := S_ _ _ h62
      have hl63 := hl63.mono S_
      have h75 := h75.mono S_
      have r86 := r86.mono S_
      have h94 := h94.mono S_
      have h101 := h101.mono S_
      have h108 := h108.mono S_
      obtain ⟨p119, w120, e121, h122, hl123⟩ := R.lst_ h108
      cases e121
      obtain ⟨y124, e125, hk⟩ := wp_opt hk
      obtain ⟨w126, e127, r128⟩ := hl123.atI e125
      refine ⟨_, _, _, _, rfl, rfl, (SqLF O118.s h122), e127, ?_⟩
      exact ⟨F112, ((Sm.two y124.a y124.b y124.c), r110.2), w126, w115, some (V.int y20), some (V.str y64), some v85, rfl, S31, O118, (R.of_two r128), hl117, hk⟩
    rintro sg129 H130 ⟨F141, st132, v134, w136, t138, t139, t140, rfl, S131, O142, r135, hl137, hL133⟩
    rw [rangeL_end0] at hL133
    have hk := hLd25 _ hL133
    have h7 := h7.mono S131
    have r18 := r18.mono S131
    refine ⟨_, rfl, ?_⟩
    exact hk _ _ w136 O142.g (O142.at 0 rfl) hl137 _ r135
abbrev s_law : Stmt := top 14
theorem sc_law : FnScope ["script", "cell", "deck", "far", "told", "some", "handed", "found", "known", "k"] ["script"] (defScope s_law) := ⟨rfl, rfl, rfl, by decide +kernel, rfl, by decide +kernel, by decide +kernel⟩
def m_law (x_script : (List Int)) : M (Bool) :=
chk (([((10 : Int) ^ Int.toNat (18 : Int))]).length + (cutL x_script none (some (15 : Int))).length < 16777216) >>= fun _ =>
loopM (fun (y41 : Int) (st52 : Unit) =>
m_law_deck y41 >>= fun r66 =>
m_law_take r66 (3 : Int) >>= fun r88 =>
opt (atI ([(4 : Int), (1000 : Int), ((10 : Int) ^ Int.toNat (29 : Int))]) r88.1) >>= fun y102 =>
chk (okR (4 : Int)) >>= fun _ =>
compS (fun (y107 : Int) (st125 : (List Int)) =>
m_law_any_sum 6 st125 (4 : Int) >>= fun r131 =>
.ok (some r131.1, r131.2)) (rangeL 0 (4 : Int)) r88.2 >>= fun q155 =>
m_law_chain q155.2 >>= fun r161 =>
chk (q155.1.length + ([r161.1]).length < 16777216) >>= fun _ =>
loopM (fun (y204 : Sm) (st215 : (List Int)) =>
chk (okR (8 : Int)) >>= fun _ =>
compS (fun (y227 : Int) (st245 : (List Int)) =>
chk (CMulW (2 : Int) y102) >>= fun _ =>
m_law_take st245 (((2 : Int) * y102) + (1 : Int)) >>= fun r252 =>
.ok (some (r252.1 - y102), r252.2)) (rangeL 0 (8 : Int)) st215 >>= fun q274 =>
opt (atI q274.1 (0 : Int)) >>= fun y319 =>
opt (atI q274.1 (1 : Int)) >>= fun y329 =>
opt (atI ([(cutL q274.1 (some (2 : Int)) (some (5 : Int))), (cutL q274.1 (some (5 : Int)) none)]) (0 : Int)) >>= fun y339 =>
opt (atI ([(cutL q274.1 (some (2 : Int)) (some (5 : Int))), (cutL q274.1 (some (5 : Int)) none)]) (1 : Int)) >>= fun y349 =>
m_sum_at 12 y204 y319 y329 y339 y349 >>= fun r354 =>
opt (atI q274.1 (0 : Int)) >>= fun y371 =>
opt (atI q274.1 (1 : Int)) >>= fun y381 =>
m_law_whole r354 >>= fun r414 =>
if r414 = true then (
m_law_value 12 y204 (mergeDS [(("own" : Str), (IL.i y371)), (("tie" : Str), (IL.i y381)), (("so" : Str), (IL.l (cutL q274.1 (some (2 : Int)) (some (5 : Int))))), (("more" : Str), (IL.l (cutL q274.1 (some (5 : Int)) none)))]) >>= fun r424 =>
if r354 ≠ r424 then (
.ok (.rt (.rt false)))
else (
if ([(cutL q274.1 (some (2 : Int)) (some (5 : Int))), (cutL q274.1 (some (5 : Int)) none)]) ≠ ([(cutL q274.1 (some (2 : Int)) (some (5 : Int))), (cutL q274.1 (some (5 : Int)) none)]) then (
.ok (.rt (.rt false)))
else (
.ok (.nx q274.2))))
else (
.ok (.rt (.rt false)))) (q155.1 ++ ([r161.1])) r161.2 >>= fun f481 => match f481 with
| .rt z_ => .ok z_
| .nx st470 =>
.ok (.nx ())) (([((10 : Int) ^ Int.toNat (18 : Int))]) ++ (cutL x_script none (some (15 : Int)))) () >>= fun f498 => match f498 with
| .rt z_ => .ok z_
| .nx st486 =>
.ok true
def sp_law (K : PySem.W.Frag) : Sp := fun vs H Q E => ∃ (F : Hp) (a_script : Addr) (x_script : (List Int)), vs = [.ref a_script] ∧ Pre F [] H ∧ SqL K F a_script (x_script.map V.int) ∧
  wp (m_law x_script) (fun r => ∀ (F' H' : Hp), Gr [] F H F' H' → Q (V.bl r) H') (fun _ => False)
set_option maxHeartbeats 2000000 in
theorem ok_law (nb : Nb mg) (C_law_any_sum : Ca P w K mg base "_law_any_sum" 9 ["deck", "deep"] (sp_law_any_sum 6 mg)) (C_law_chain : Ca P w K mg base "_law_chain" 3 ["deck"] (sp_law_chain mg)) (C_law_deck : Ca P w K mg base "_law_deck" 2 ["cell"] (sp_law_deck mg)) (C_law_take : Ca P w K mg base "_law_take" 1 ["deck", "many"] (sp_law_take mg)) (C_law_value : Ca P w K mg base "_law_value" 13 ["told", "known"] (sp_law_value 12 mg)) (C_law_whole : Ca P w K mg base "_law_whole" 1 ["found"] (sp_law_whole mg)) (C_sum_at : Ca P w K mg base "sum_at" 13 ["sum_told", "own", "tie", "so", "more"] (sp_sum_at 12 mg)) {f : Addr} {fd : FuncData} (F_ : Fun K "law" "law" s_law f fd) : FnOk P w K mg base (L2.CX P w) 14 f fd ["script"] (sp_law K) := by
  obtain ⟨fa_law_any_sum, fd_law_any_sum, G_law_any_sum, M_law_any_sum, K_law_any_sum, B_law_any_sum⟩ := C_law_any_sum.ex
  obtain ⟨fa_law_chain, fd_law_chain, G_law_chain, M_law_chain, K_law_chain, B_law_chain⟩ := C_law_chain.ex
  obtain ⟨fa_law_deck, fd_law_deck, G_law_deck, M_law_deck, K_law_deck, B_law_deck⟩ := C_law_deck.ex
  obtain ⟨fa_law_take, fd_law_take, G_law_take, M_law_take, K_law_take, B_law_take⟩ := C_law_take.ex
  obtain ⟨fa_law_value, fd_law_value, G_law_value, M_law_value, K_law_value, B_law_value⟩ := C_law_value.ex
  obtain ⟨fa_law_whole, fd_law_whole, G_law_whole, M_law_whole, K_law_whole, B_law_whole⟩ := C_law_whole.ex
  obtain ⟨fa_sum_at, fd_sum_at, G_sum_at, M_sum_at, K_sum_at, B_sum_at⟩ := C_sum_at.ex
  refine F_.okX sc_law (fun vs H Q E h => ?_) (fun cdv A outer s H vs Q E hr h => ?_)
  · obtain ⟨F, _, _, rfl, _⟩ := h
    rfl
  · obtain ⟨F, a_script, x_script, rfl, P0, f_script, hk⟩ := h
    have nd := sc_law.nd
    have hu64 := hr.units
    have hu128 := hu128_of hr
    have O := P0.start
    refine ⟨_, (pss_cons (ps_for (passes_of rfl) rfl (pi_list (pe_op op_cat (pe_lst (pa_cons (pe_op op_pow pe_int pe_int) pa_nil)) (pe_slice (slListK (K := K) rfl) (pv 0) po_none (po_some pe_int)))) (pg_name (i := 1) nd rfl (Or.inl rfl)) (pss_cons (ps_set (i := 2) nd rfl (Or.inr rfl) (pe_call G_law_deck (hr.mono (by decide)) rfl M_law_deck K_law_deck B_law_deck .nil (passes_call (takes_of rfl rfl rfl rfl) fun _ _ _ _ h => h) (pa_cons (pv 1) pa_nil)))
  (pss_cons (ps_set (i := 3) nd rfl (Or.inr rfl) (pe_ix (ixListK (K := K) rfl) (pe_lst (pa_cons pe_int (pa_cons pe_int (pa_cons (pe_op op_pow pe_int pe_int) pa_nil)))) (pe_call G_law_take (hr.mono (by decide)) rfl M_law_take K_law_take B_law_take .nil (passes_call (takes_of rfl rfl rfl rfl) fun _ _ _ _ h => h) (pa_cons (pv 2) (pa_cons pe_int pa_nil))) (fun _ _ => rfl)))
  (pss_one (ps_for (passes_of rfl) rfl (pi_list (pe_op op_cat (pe_lc (own := [("k", 9)]) (g := gName 9) (tt := _) rfl nd (pi_range1 rfl nb.b_range (pa_cons pe_int pa_nil)) (blkOk_by (own := [("k", 9)]) (N := ["script", "cell", "deck", "far", "told", "some", "handed", "found", "known", "k"]) (sc := defScope s_law) (by decide +kernel)) (fun _ _ _ _ _ => (pg_name (i := 9) nd rfl (Or.inl rfl))) (fun _ _ _ _ _ => pts_nil) (fun _ _ _ _ _ => (pe_call G_law_any_sum (hr.mono (by decide)) rfl M_law_any_sum K_law_any_sum B_law_any_sum .nil passL (pa_cons (pv 2) (pa_cons pe_int pa_nil))))) (pe_lst (pa_cons (pe_call G_law_chain (hr.mono (by decide)) rfl M_law_chain K_law_chain B_law_chain .nil (passes_call (takes_of rfl rfl rfl rfl) fun _ _ _ _ h => h) (pa_cons (pv 2) pa_nil)) pa_nil)))) (pg_name (i := 4) nd rfl (Or.inl rfl)) (pss_cons (ps_setLc (i := 5) (own := [("k", 9)]) (g := gName 9) (tt := _) rfl nd rfl rfl (sw_true rfl rfl rfl (by decide +kernel)) (pi_range1 rfl nb.b_range (pa_cons pe_int pa_nil)) (blkOk_by (own := [("k", 9)]) (N := ["script", "cell", "deck", "far", "told", "some", "handed", "found", "known", "k"]) (sc := defScope s_law) (by decide +kernel)) (fun _ _ _ _ _ => (pg_name (i := 9) nd rfl (Or.inl rfl))) (fun _ _ _ _ _ => pts_nil) (fun _ _ _ _ _ => (pe_op op_sub (pe_call G_law_take (hr.mono (by decide)) rfl M_law_take K_law_take B_law_take .nil passL (pa_cons (pv 2) (pa_cons (pe_op op_add (pe_op op_mulW pe_int (pv 3)) pe_int) pa_nil))) (pv 3))))
  (pss_cons (ps_set (i := 6) nd rfl (Or.inl rfl) (pe_lst (pa_cons (pe_slice (slListK (K := K) rfl) (pv 5) (po_some pe_int) (po_some pe_int)) (pa_cons (pe_slice (slListK (K := K) rfl) (pv 5) (po_some pe_int) po_none) pa_nil))))
  (pss_cons (ps_set (i := 7) nd rfl (Or.inl rfl) (pe_call G_sum_at (hr.mono (by decide)) rfl M_sum_at K_sum_at B_sum_at .nil (passes_call (takes_of rfl rfl rfl rfl) fun _ _ _ _ h => h) (pa_cons (pv 4) (pa_cons (pe_ix (ixListK (K := K) rfl) (pv 5) pe_int (fun _ _ => rfl)) (pa_cons (pe_ix (ixListK (K := K) rfl) (pv 5) pe_int (fun _ _ => rfl)) (pa_cons (pe_ix (ixListK (K := K) rfl) (pv 6) pe_int (fun _ _ => rfl)) (pa_cons (pe_ix (ixListK (K := K) rfl) (pv 6) pe_int (fun _ _ => rfl)) pa_nil)))))))
  (pss_cons (ps_set (i := 8) nd rfl (Or.inl rfl) (pe_disp (pps_cons pe_str (pe_ix (ixListK (K := K) rfl) (pv 5) pe_int (fun _ _ => rfl)) (pps_cons pe_str (pe_ix (ixListK (K := K) rfl) (pv 5) pe_int (fun _ _ => rfl)) (pps_cons pe_str (pe_slice (slListK (K := K) rfl) (pv 5) (po_some pe_int) (po_some pe_int)) (pps_cons pe_str (pe_slice (slListK (K := K) rfl) (pv 5) (po_some pe_int) po_none) pps_nil)))) rfl rfl (fun h => nomatch h) (by show 4 ≤ 15; decide)))
  (pss_one (ps_if (PW.pt (pw_or (pt_not (pt_val (pe_call G_law_whole (hr.mono (by decide)) rfl M_law_whole K_law_whole B_law_whole .nil (passes_call (takes_of rfl rfl rfl rfl) fun _ _ _ _ h => h) (pa_cons (pv 7) pa_nil)))) (pw_or (pt_cmpR (op_neT Int hu64) (pv 7) (pe_call G_law_value (hr.mono (by decide)) rfl M_law_value K_law_value B_law_value .nil (passes_call (takes_of rfl rfl rfl rfl) fun _ _ _ _ h => h) (pa_cons (pv 4) (pa_cons (pv 8) pa_nil))) (nomark _)) (pw_or1 (pt_cmpR (op_neT (List (List Int)) hu64) (pv 6) (pe_lst (pa_cons (pe_slice (slListK (K := K) rfl) (pv 5) (po_some pe_int) (po_some pe_int)) (pa_cons (pe_slice (slListK (K := K) rfl) (pv 5) (po_some pe_int) po_none) pa_nil))) (nomark _)))))) (pss_one (ps_ret pe_bl)) pss_nil)))))))))))
  (pss_one (ps_ret pe_bl))), ?_⟩
    refine ⟨_, _, rfl, rfl, (by decide), (by show 1 ≤ sizeLine; decide), fun p1 hp2 => ?_⟩
    have hl8 : RL (a := Int) F ([V.int ((10 : Int) ^ Int.toNat (18 : Int))]) ([((10 : Int) ^ Int.toNat (18 : Int))]) := RL.cons R.int RL.nil
    obtain ⟨F3, O4, S5, h6⟩ := O.putE hp2 (.lst ([V.int ((10 : Int) ^ Int.toNat (18 : Int))]))
    have f_script := S5.seq f_script
    have hl8 := hl8.mono S5
    have h7 := R.lst (a := Int) h6 hl8
    refine ⟨_, rfl, _, rfl, _, _, rfl, (O4.s.seq f_script), fun p9 hp10 => ?_⟩
    have hl16 : RL (a := Int) F3 (cutV (List.map V.int x_script) none (some (15 : Int))) (cutL x_script none (some (15 : Int))) := RL.cutL RL.of_ints none (some (15 : Int))
    obtain ⟨F11, O12, S13, h14⟩ := O4.putE hp10 (.lst (cutV (List.map V.int x_script) none (some (15 : Int))))
    have f_script := S13.seq f_script
    have h7 := h7.mono S13
    have hl16 := hl16.mono S13
    have h15 := R.lst (a := Int) h14 hl16
    obtain ⟨p17, w18, e19, h20, hl21⟩ := R.lst_ h7
    cases e19
    obtain ⟨p22, w23, e24, h25, hl26⟩ := R.lst_ h15
    cases e24
    obtain ⟨c27, hk⟩ := wp_chk hk
    refine ⟨_, _, _, _, rfl, rfl, (O12.s _ _ h20), (O12.s _ _ h25), (by rw [hl21.len, hl26.len]; exact le_line c27), fun p28 hp29 => ?_⟩
    have hl35 : RL (a := Int) F11 (w18 ++ w23) (([((10 : Int) ^ Int.toNat (18 : Int))]) ++ (cutL x_script none (some (15 : Int)))) := RL.app hl21 hl26
    obtain ⟨F30, O31, S32, h33⟩ := O12.putE hp29 (.lst (w18 ++ w23))
    have f_script := S32.seq f_script
    have h7 := h7.mono S32
    have h15 := h15.mono S32
    have h20 := S32 _ _ h20
    have hl21 := hl21.mono S32
    have h25 := S32 _ _ h25
    have hl26 := hl26.mono S32
    have hl35 := hl35.mono S32
    have h34 := R.lst (a := Int) h33 hl35
    obtain ⟨p36, w37, e38, h39, hl40⟩ := R.lst_ h34
    cases e38
    obtain ⟨L42, hL43, hLs44, hLd45⟩ := loopM_L hk
    refine ⟨_, rfl, ⟨_, (SqLF O31.s h39)⟩, ?_⟩
    refine for_list (K := K) (xs := w37) (fun i σ H => ∃ (F_ : Hp) (st : Unit) (t_0 : Option V) (t_1 : Option V) (t_2 : Option V) (t_3 : Option V) (t_4 : Option V) (t_5 : Option V) (t_6 : Option V) (t_7 : Option V), σ = [some (V.ref a_script), t_0, t_1, t_2, t_3, t_4, t_5, t_6, t_7, none] ∧ Same F30 F_ ∧ Ow _ F_ [] H ∧ L42 (List.drop i (([((10 : Int) ^ Int.toNat (18 : Int))]) ++ (cutL x_script none (some (15 : Int))))) st) ⟨F30, (), none, none, none, none, none, none, none, none, rfl, Same.refl _, O31, hL43⟩ (fun i_ σ_ H_ _ hp_ => ?_) ?_ ?_
    · obtain ⟨_, _, _, _, _, _, _, _, _, _, _, hS_, hO_, _⟩ := hp_
      exact SqLF hO_.s (hS_ _ _ h39)
    · rintro i46 x47 sg48 H49 hi50 ⟨F61, st52, t53, t54, t55, t56, t57, t58, t59, t60, rfl, S51, O62, hL43⟩
      have f_script := S51.seq f_script
      have h7 := h7.mono S51
      have h15 := h15.mono S51
      have h20 := S51 _ _ h20
      have hl21 := hl21.mono S51
      have h25 := S51 _ _ h25
      have hl26 := hl26.mono S51
      have h34 := h34.mono S51
      have h39 := S51 _ _ h39
      have hl40 := hl40.mono S51
      obtain ⟨y41, e63, r64⟩ := RL.got hl40 hi50
      rw [drop_at e63] at hL43
      have hk := hLs44 _ _ _ hL43
      obtain rfl := R.int_ r64
      refine ⟨_, rfl, _, _, rfl, O62.pre0, wp_call hk (fun r66 er67 hk F68 H69 g70 p71 w72 hn73 hf74 h75 hl76 => ?_) (fun n hn C H1 hC kp => hn.elim)⟩
      have O77 := O62.call0 g70
      have S_ := g70.f
      have f_script := S_.seq f_script
      have h7 := h7.mono S_
      have h15 := h15.mono S_
      have h20 := S_ _ _ h20
      have hl21 := hl21.mono S_
      have h25 := S_ _ _ h25
      have hl26 := hl26.mono S_
      have h34 := h34.mono S_
      have h39 := S_ _ _ h39
      have hl40 := hl40.mono S_
      have S51 := S51.trans S_
      have O78 := O62.got O77 rfl hn73 hf74 h75
      have z79 := O62.was hn73
      refine ⟨_, _, rfl, rfl, (by decide), (by show 3 ≤ sizeLine; decide), fun p80 hp81 => ?_⟩
      have hl87 : RL (a := Int) F68 ([V.int (4 : Int), V.int (1000 : Int), V.int ((10 : Int) ^ Int.toNat (29 : Int))]) ([(4 : Int), (1000 : Int), ((10 : Int) ^ Int.toNat (29 : Int))]) := RL.cons R.int (RL.cons R.int (RL.cons R.int RL.nil))
      obtain ⟨F82, O83, S84, h85⟩ := O78.putE hp81 (.lst ([V.int (4 : Int), V.int (1000 : Int), V.int ((10 : Int) ^ Int.toNat (29 : Int))]))
      have f_script := S84.seq f_script
      have h7 := h7.mono S84
      have h15 := h15.mono S84
      have h20 := S84 _ _ h20
      have hl21 := hl21.mono S84
      have h25 := S84 _ _ h25
      have hl26 := hl26.mono S84
      have h34 := h34.mono S84
      have h39 := S84 _ _ h39
      have hl40 := hl40.mono S84
      have S51 := S51.trans S84
      have hl76 := hl76.mono S84
      have hl87 := hl87.mono S84
      have h86 := R.lst (a := Int) h85 hl87
      refine ⟨_, rfl, _, _, _, _, _, rfl, (O83.pre1 0 rfl), hl76, wp_call hk (fun r88 er89 hk F90 H91 w93 g92 h94 hl95 => ?_) (fun n hn C H1 hC kp => hn.elim)⟩
      have O96 := O83.call1 g92 0 rfl h94
      have S_ := g92.f
      have f_script := S_.seq f_script
      have h7 := h7.mono S_
      have h15 := h15.mono S_
      have h20 := S_ _ _ h20
      have hl21 := hl21.mono S_
      have h25 := S_ _ _ h25
      have hl26 := hl26.mono S_
      have h34 := h34.mono S_
      have h39 := S_ _ _ h39
      have hl40 := hl40.mono S_
      have S51 := S51.trans S_
      have h86 := h86.mono S_
      obtain ⟨p97, w98, e99, h100, hl101⟩ := R.lst_ h86
      cases e99
      obtain ⟨y102, e103, hk⟩ := wp_opt hk
      obtain ⟨w104, e105, r106⟩ := hl101.atI e103
      obtain rfl := R.int_ r106
      obtain ⟨c108, hk⟩ := wp_chk hk
      obtain ⟨c113, L109, hL110, hLs111, hLd112⟩ := compS_L hk
      refine ⟨_, _, _, _, rfl, rfl, (SqLF O96.s h100), e105, _, rfl, c108.lo, c108.hi, fun p114 hp115 => ?_⟩
      have z142 := O96.was hp115
      refine lc_range (lo := 0) (n := ((4 : Int)).toNat) (fun i H => ∃ (F_ : Hp) (st : (List Int)) (acc : List Sm) (wa : List V) (w_0 : (List V)), Same F90 F_ ∧ Ow _ F_ [(p114, .lst wa), (p71, .lst w_0)] H ∧ RL F_ wa acc ∧ RL (a := Int) F_ w_0 st ∧ wa.length ≤ i ∧ L109 (List.drop i (rangeL 0 (4 : Int))) acc st) ⟨F90, r88.2, [], [], w93, Same.refl _, O96.new hp115, RL.nil, hl95, Nat.zero_le _, hL110⟩ ?_ ?_
      · rintro i116 H118 hi119 ⟨F124, st125, acc121, wa122, w127, S126, O130, hl129, hl128, la123, hL110⟩
        have f_script := S126.seq f_script
        have h7 := h7.mono S126
        have h15 := h15.mono S126
        have h20 := S126 _ _ h20
        have hl21 := hl21.mono S126
        have h25 := S126 _ _ h25
        have hl26 := hl26.mono S126
        have h34 := h34.mono S126
        have h39 := S126 _ _ h39
        have hl40 := hl40.mono S126
        have S51 := S51.trans S126
        have h86 := h86.mono S126
        have h100 := S126 _ _ h100
        have hl101 := hl101.mono S126
        rw [rangeL_get0 hi119] at hL110
        have hk := hLs111 _ _ _ _ hL110
        obtain ⟨y107, he_⟩ : ∃ z_, z_ = 0 + (i116 : Int) := ⟨_, rfl⟩
        try rw [← he_] at hk
        rw [← he_]
        refine ⟨rfl, ?_⟩
        refine ⟨_, rfl, _, _, _, _, _, rfl, (O130.pre1 1 rfl), hl128, wp_call hk (fun r131 er132 hk F133 H134 w136 g135 h137 hl138 v139 r140 => ?_) (fun n hn => hn.elim)⟩
        have O141 := O130.call1 g135 1 rfl h137
        have S_ := g135.f
        have f_script := S_.seq f_script
        have h7 := h7.mono S_
        have h15 := h15.mono S_
        have h20 := S_ _ _ h20
        have hl21 := hl21.mono S_
        have h25 := S_ _ _ h25
        have hl26 := hl26.mono S_
        have h34 := h34.mono S_
        have h39 := S_ _ _ h39
        have hl40 := hl40.mono S_
        have S51 := S51.trans S_
        have h86 := h86.mono S_
        have h100 := S_ _ _ h100
        have hl101 := hl101.mono S_
        have S126 := S126.trans S_
        have hl129 := hl129.mono S_
        refine ⟨_, (O141.at 0 rfl), (comp_lenR la123 hi119 (by rw [Int.sub_zero]) c113), ?_⟩
        exact ⟨F133, r131.2, acc121 ++ [r131.1], wa122 ++ [v139], w136, S126, O141.set 0 (.lst (wa122 ++ [v139])) rfl, RL.snoc hl129 r140, hl138, by rw [List.length_append]; exact Nat.succ_le_succ la123, hk⟩
      rintro H143 ⟨F144, st145, acc146, wa147, w153, S148, O149, hl150, hl154, la151, hL152⟩
      rw [rangeL_end0] at hL152
      have hk := hLd112 _ _ hL152
      have f_script := S148.seq f_script
      have h7 := h7.mono S148
      have h15 := h15.mono S148
      have h20 := S148 _ _ h20
      have hl21 := hl21.mono S148
      have h25 := S148 _ _ h25
      have hl26 := hl26.mono S148
      have h34 := h34.mono S148
      have h39 := S148 _ _ h39
      have hl40 := hl40.mono S148
      have S51 := S51.trans S148
      have h86 := h86.mono S148
      have h100 := S148 _ _ h100
      have hl101 := hl101.mono S148
      obtain ⟨F156, O157, S158, h159⟩ := O149.frzE 0 rfl z142
      have f_script := S158.seq f_script
      have h7 := h7.mono S158
      have h15 := h15.mono S158
      have h20 := S158 _ _ h20
      have hl21 := hl21.mono S158
      have h25 := S158 _ _ h25
      have hl26 := hl26.mono S158
      have h34 := h34.mono S158
      have h39 := S158 _ _ h39
      have hl40 := hl40.mono S158
      have S51 := S51.trans S158
      have h86 := h86.mono S158
      have h100 := S158 _ _ h100
      have hl101 := hl101.mono S158
      have hl154 := hl154.mono S158
      have hl150 := hl150.mono S158
      have h160 := R.lst (a := Sm) h159 hl150
      refine ⟨_, rfl, _, _, _, _, rfl, (O157.pre1 0 rfl), hl154, wp_call hk (fun r161 er162 hk F163 H164 w166 g165 h167 hl168 v169 r170 => ?_) (fun n hn C H1 hC kp => hn.elim)⟩
      have O171 := O157.call1 g165 0 rfl h167
      have S_ := g165.f
      have f_script := S_.seq f_script
      have h7 := h7.mono S_
      have h15 := h15.mono S_
      have h20 := S_ _ _ h20
      have hl21 := hl21.mono S_
      have h25 := S_ _ _ h25
      have hl26 := hl26.mono S_
      have h34 := h34.mono S_
      have h39 := S_ _ _ h39
      have hl40 := hl40.mono S_
      have S51 := S51.trans S_
      have h86 := h86.mono S_
      have h100 := S_ _ _ h100
      have hl101 := hl101.mono S_
      have h160 := h160.mono S_
      refine ⟨(by show 1 ≤ sizeLine; decide), fun p172 hp173 => ?_⟩
      have hl179 : RL (a := Sm) F163 ([v169]) ([r161.1]) := RL.cons r170 RL.nil
      obtain ⟨F174, O175, S176, h177⟩ := O171.putE hp173 (.lst ([v169]))
      have f_script := S176.seq f_script
      have h7 := h7.mono S176
      have h15 := h15.mono S176
      have h20 := S176 _ _ h20
      have hl21 := hl21.mono S176
      have h25 := S176 _ _ h25
      have hl26 := hl26.mono S176
      have h34 := h34.mono S176
      have h39 := S176 _ _ h39
      have hl40 := hl40.mono S176
      have S51 := S51.trans S176
      have h86 := h86.mono S176
      have h100 := S176 _ _ h100
      have hl101 := hl101.mono S176
      have h160 := h160.mono S176
      have hl168 := hl168.mono S176
      have r170 := r170.mono S176
      have hl179 := hl179.mono S176
      have h178 := R.lst (a := Sm) h177 hl179
      obtain ⟨p180, w181, e182, h183, hl184⟩ := R.lst_ h160
      cases e182
      obtain ⟨p185, w186, e187, h188, hl189⟩ := R.lst_ h178
      cases e187
      obtain ⟨c190, hk⟩ := wp_chk hk
      refine ⟨_, _, _, _, rfl, rfl, (O175.s _ _ h183), (O175.s _ _ h188), (by rw [hl184.len, hl189.len]; exact le_line c190), fun p191 hp192 => ?_⟩
      have hl198 : RL (a := Sm) F174 (w181 ++ w186) (acc146 ++ ([r161.1])) := RL.app hl184 hl189
      obtain ⟨F193, O194, S195, h196⟩ := O175.putE hp192 (.lst (w181 ++ w186))
      have f_script := S195.seq f_script
      have h7 := h7.mono S195
      have h15 := h15.mono S195
      have h20 := S195 _ _ h20
      have hl21 := hl21.mono S195
      have h25 := S195 _ _ h25
      have hl26 := hl26.mono S195
      have h34 := h34.mono S195
      have h39 := S195 _ _ h39
      have hl40 := hl40.mono S195
      have S51 := S51.trans S195
      have h86 := h86.mono S195
      have h100 := S195 _ _ h100
      have hl101 := hl101.mono S195
      have h160 := h160.mono S195
      have hl168 := hl168.mono S195
      have r170 := r170.mono S195
      have h178 := h178.mono S195
      have h183 := S195 _ _ h183
      have hl184 := hl184.mono S195
      have h188 := S195 _ _ h188
      have hl189 := hl189.mono S195
      have hl198 := hl198.mono S195
      have h197 := R.lst (a := Sm) h196 hl198
      obtain ⟨p199, w200, e201, h202, hl203⟩ := R.lst_ h197
      cases e201
      obtain ⟨L205, hL206, hLs207, hLd208⟩ := loopM_L hk
      refine ⟨_, rfl, ⟨_, (SqLF O194.s h202)⟩, ?_⟩
      refine for_list (K := K) (xs := w200) (fun i σ H => ∃ (F_ : Hp) (st : (List Int)) (w_0 : (List V)) (t_0 : Option V) (t_1 : Option V) (t_2 : Option V) (t_3 : Option V) (t_4 : Option V), σ = [some (V.ref a_script), some (V.int y41), some (V.ref p71), some (V.int y102), t_0, t_1, t_2, t_3, t_4, none] ∧ Same F193 F_ ∧ Ow _ F_ [(p71, .lst w_0)] H ∧ RL (a := Int) F_ w_0 st ∧ L205 (List.drop i (acc146 ++ ([r161.1]))) st) ⟨F193, r161.2, w166, t56, t57, t58, t59, t60, rfl, Same.refl _, O194, hl168, hL206⟩ (fun i_ σ_ H_ _ hp_ => ?_) ?_ ?_
      · obtain ⟨_, _, _, _, _, _, _, _, _, hS_, hO_, _⟩ := hp_
        exact SqLF hO_.s (hS_ _ _ h202)
      · rintro i209 x210 sg211 H212 hi213 ⟨F223, st215, w216, t218, t219, t220, t221, t222, rfl, S214, O224, hl217, hL206⟩
        have f_script := S214.seq f_script
        have h7 := h7.mono S214
        have h15 := h15.mono S214
        have h20 := S214 _ _ h20
        have hl21 := hl21.mono S214
        have h25 := S214 _ _ h25
        have hl26 := hl26.mono S214
        have h34 := h34.mono S214
        have h39 := S214 _ _ h39
        have hl40 := hl40.mono S214
        have S51 := S51.trans S214
        have h86 := h86.mono S214
        have h100 := S214 _ _ h100
        have hl101 := hl101.mono S214
        have h160 := h160.mono S214
        have r170 := r170.mono S214
        have h178 := h178.mono S214
        have h183 := S214 _ _ h183
        have hl184 := hl184.mono S214
        have h188 := S214 _ _ h188
        have hl189 := hl189.mono S214
        have h197 := h197.mono S214
        have h202 := S214 _ _ h202
        have hl203 := hl203.mono S214
        obtain ⟨y204, e225, r226⟩ := RL.got hl203 hi213
        rw [drop_at e225] at hL206
        have hk := hLs207 _ _ _ hL206
        obtain ⟨c228, hk⟩ := wp_chk hk
        obtain ⟨c233, L229, hL230, hLs231, hLd232⟩ := compS_L hk
        refine ⟨_, rfl, c228.lo, c228.hi, fun p234 hp235 => ?_⟩
        have z261 := O224.was hp235
        refine lc_range (lo := 0) (n := ((8 : Int)).toNat) (fun i H => ∃ (F_ : Hp) (st : (List Int)) (acc : List Int) (wa : List V) (w_0 : (List V)), Same F223 F_ ∧ Ow _ F_ [(p234, .lst wa), (p71, .lst w_0)] H ∧ RL F_ wa acc ∧ RL (a := Int) F_ w_0 st ∧ wa.length ≤ i ∧ L229 (List.drop i (rangeL 0 (8 : Int))) acc st) ⟨F223, st215, [], [], w216, Same.refl _, O224.new hp235, RL.nil, hl217, Nat.zero_le _, hL230⟩ ?_ ?_
        · rintro i236 H238 hi239 ⟨F244, st245, acc241, wa242, w247, S246, O250, hl249, hl248, la243, hL230⟩
          have f_script := S246.seq f_script
          have h7 := h7.mono S246
          have h15 := h15.mono S246
          have h20 := S246 _ _ h20
          have hl21 := hl21.mono S246
          have h25 := S246 _ _ h25
          have hl26 := hl26.mono S246
          have h34 := h34.mono S246
          have h39 := S246 _ _ h39
          have hl40 := hl40.mono S246
          have S51 := S51.trans S246
          have h86 := h86.mono S246
          have h100 := S246 _ _ h100
          have hl101 := hl101.mono S246
          have h160 := h160.mono S246
          have r170 := r170.mono S246
          have h178 := h178.mono S246
          have h183 := S246 _ _ h183
          have hl184 := hl184.mono S246
          have h188 := S246 _ _ h188
          have hl189 := hl189.mono S246
          have h197 := h197.mono S246
          have h202 := S246 _ _ h202
          have hl203 := hl203.mono S246
          have S214 := S214.trans S246
          have r226 := r226.mono S246
          rw [rangeL_get0 hi239] at hL230
          have hk := hLs231 _ _ _ _ hL230
          obtain ⟨y227, he_⟩ : ∃ z_, z_ = 0 + (i236 : Int) := ⟨_, rfl⟩
          try rw [← he_] at hk
          rw [← he_]
          refine ⟨rfl, ?_⟩
          obtain ⟨c251, hk⟩ := wp_chk hk
          refine ⟨_, rfl, _, rfl, _, _, rfl, rfl, c251, _, _, rfl, rfl, _, _, _, _, _, rfl, (O250.pre1 1 rfl), hl248, wp_call hk (fun r252 er253 hk F254 H255 w257 g256 h258 hl259 => ?_) (fun n hn => hn.elim)⟩
          have O260 := O250.call1 g256 1 rfl h258
          have S_ := g256.f
          have f_script := S_.seq f_script
          have h7 := h7.mono S_
          have h15 := h15.mono S_
          have h20 := S_ _ _ h20
          have hl21 := hl21.mono S_
          have h25 := S_ _ _ h25
          have hl26 := hl26.mono S_
          have h34 := h34.mono S_
          have h39 := S_ _ _ h39
          have hl40 := hl40.mono S_
          have S51 := S51.trans S_
          have h86 := h86.mono S_
          have h100 := S_ _ _ h100
          have hl101 := hl101.mono S_
          have h160 := h160.mono S_
          have r170 := r170.mono S_
          have h178 := h178.mono S_
          have h183 := S_ _ _ h183
          have hl184 := hl184.mono S_
          have h188 := S_ _ _ h188
          have hl189 := hl189.mono S_
          have h197 := h197.mono S_
          have h202 := S_ _ _ h202
          have hl203 := hl203.mono S_
          have S214 := S214.trans S_
          have r226 := r226.mono S_
          have S246 := S246.trans S_
          have hl249 := hl249.mono S_
          refine ⟨_, rfl, _, _, rfl, rfl, _, (O260.at 0 rfl), (comp_lenR la243 hi239 (by rw [Int.sub_zero]) c233), ?_⟩
          exact ⟨F254, r252.2, acc241 ++ [(r252.1 - y102)], wa242 ++ [V.int (r252.1 - y102)], w257, S246, O260.set 0 (.lst (wa242 ++ [V.int (r252.1 - y102)])) rfl, RL.snoc hl249 R.int, hl259, by rw [List.length_append]; exact Nat.succ_le_succ la243, hk⟩
        rintro H262 ⟨F263, st264, acc265, wa266, w272, S267, O268, hl269, hl273, la270, hL271⟩
        rw [rangeL_end0] at hL271
        have hk := hLd232 _ _ hL271
        have f_script := S267.seq f_script
        have h7 := h7.mono S267
        have h15 := h15.mono S267
        have h20 := S267 _ _ h20
        have hl21 := hl21.mono S267
        have h25 := S267 _ _ h25
        have hl26 := hl26.mono S267
        have h34 := h34.mono S267
        have h39 := S267 _ _ h39
        have hl40 := hl40.mono S267
        have S51 := S51.trans S267
        have h86 := h86.mono S267
        have h100 := S267 _ _ h100
        have hl101 := hl101.mono S267
        have h160 := h160.mono S267
        have r170 := r170.mono S267
        have h178 := h178.mono S267
        have h183 := S267 _ _ h183
        have hl184 := hl184.mono S267
        have h188 := S267 _ _ h188
        have hl189 := hl189.mono S267
        have h197 := h197.mono S267
        have h202 := S267 _ _ h202
        have hl203 := hl203.mono S267
        have S214 := S214.trans S267
        have r226 := r226.mono S267
        obtain ⟨F275, O276, S277, h278⟩ := O268.frzE 0 rfl z261
        have f_script := S277.seq f_script
        have h7 := h7.mono S277
        have h15 := h15.mono S277
        have h20 := S277 _ _ h20
        have hl21 := hl21.mono S277
        have h25 := S277 _ _ h25
        have hl26 := hl26.mono S277
        have h34 := h34.mono S277
        have h39 := S277 _ _ h39
        have hl40 := hl40.mono S277
        have S51 := S51.trans S277
        have h86 := h86.mono S277
        have h100 := S277 _ _ h100
        have hl101 := hl101.mono S277
        have h160 := h160.mono S277
        have r170 := r170.mono S277
        have h178 := h178.mono S277
        have h183 := S277 _ _ h183
        have hl184 := hl184.mono S277
        have h188 := S277 _ _ h188
        have hl189 := hl189.mono S277
        have h197 := h197.mono S277
        have h202 := S277 _ _ h202
        have hl203 := hl203.mono S277
        have S214 := S214.trans S277
        have r226 := r226.mono S277
        have hl273 := hl273.mono S277
        have hl269 := hl269.mono S277
        have h279 := R.lst (a := Int) h278 hl269
        obtain ⟨p280, w281, e282, h283, hl284⟩ := R.lst_ h279
        cases e282
        refine ⟨_, rfl, _, rfl, _, rfl, _, _, rfl, (SqLF O276.s h283), fun p285 hp286 => ?_⟩
        have hl292 : RL (a := Int) F275 (cutV w281 (some (2 : Int)) (some (5 : Int))) (cutL acc265 (some (2 : Int)) (some (5 : Int))) := RL.cutL hl284 (some (2 : Int)) (some (5 : Int))
        obtain ⟨F287, O288, S289, h290⟩ := O276.putE hp286 (.lst (cutV w281 (some (2 : Int)) (some (5 : Int))))
        have f_script := S289.seq f_script
        have h7 := h7.mono S289
        have h15 := h15.mono S289
        have h20 := S289 _ _ h20
        have hl21 := hl21.mono S289
        have h25 := S289 _ _ h25
        have hl26 := hl26.mono S289
        have h34 := h34.mono S289
        have h39 := S289 _ _ h39
        have hl40 := hl40.mono S289
        have S51 := S51.trans S289
        have h86 := h86.mono S289
        have h100 := S289 _ _ h100
        have hl101 := hl101.mono S289
        have h160 := h160.mono S289
        have r170 := r170.mono S289
        have h178 := h178.mono S289
        have h183 := S289 _ _ h183
        have hl184 := hl184.mono S289
        have h188 := S289 _ _ h188
        have hl189 := hl189.mono S289
        have h197 := h197.mono S289
        have h202 := S289 _ _ h202
        have hl203 := hl203.mono S289
        have S214 := S214.trans S289
        have r226 := r226.mono S289
        have hl273 := hl273.mono S289
        have h279 := h279.mono S289
        have h283 := S289 _ _ h283
        have hl284 := hl284.mono S289
        have hl292 := hl292.mono S289
        have h291 := R.lst (a := Int) h290 hl292
        obtain ⟨p293, w294, e295, h296, hl297⟩ := R.lst_ h279
        cases e295
        refine ⟨_, rfl, _, rfl, _, _, rfl, (SqLF O288.s h296), fun p298 hp299 => ?_⟩
        have hl305 : RL (a := Int) F287 (cutV w294 (some (5 : Int)) none) (cutL acc265 (some (5 : Int)) none) := RL.cutL hl297 (some (5 : Int)) none
        obtain ⟨F300, O301, S302, h303⟩ := O288.putE hp299 (.lst (cutV w294 (some (5 : Int)) none))
        have f_script := S302.seq f_script
        have h7 := h7.mono S302
        have h15 := h15.mono S302
        have h20 := S302 _ _ h20
        have hl21 := hl21.mono S302
        have h25 := S302 _ _ h25
        have hl26 := hl26.mono S302
        have h34 := h34.mono S302
        have h39 := S302 _ _ h39
        have hl40 := hl40.mono S302
        have S51 := S51.trans S302
        have h86 := h86.mono S302
        have h100 := S302 _ _ h100
        have hl101 := hl101.mono S302
        have h160 := h160.mono S302
        have r170 := r170.mono S302
        have h178 := h178.mono S302
        have h183 := S302 _ _ h183
        have hl184 := hl184.mono S302
        have h188 := S302 _ _ h188
        have hl189 := hl189.mono S302
        have h197 := h197.mono S302
        have h202 := S302 _ _ h202
        have hl203 := hl203.mono S302
        have S214 := S214.trans S302
        have r226 := r226.mono S302
        have hl273 := hl273.mono S302
        have h279 := h279.mono S302
        have h283 := S302 _ _ h283
        have hl284 := hl284.mono S302
        have h291 := h291.mono S302
        have h296 := S302 _ _ h296
        have hl297 := hl297.mono S302
        have hl305 := hl305.mono S302
        have h304 := R.lst (a := Int) h303 hl305
        refine ⟨(by show 2 ≤ sizeLine; decide), fun p306 hp307 => ?_⟩
        have hl313 : RL (a := (List Int)) F300 ([V.ref p285, V.ref p298]) ([(cutL acc265 (some (2 : Int)) (some (5 : Int))), (cutL acc265 (some (5 : Int)) none)]) := RL.cons h291 (RL.cons h304 RL.nil)
        obtain ⟨F308, O309, S310, h311⟩ := O301.putE hp307 (.lst ([V.ref p285, V.ref p298]))
        have f_script := S310.seq f_script
        have h7 := h7.mono S310
        have h15 := h15.mono S310
        have h20 := S310 _ _ h20
        have hl21 := hl21.mono S310
        have h25 := S310 _ _ h25
        have hl26 := hl26.mono S310
        have h34 := h34.mono S310
        have h39 := S310 _ _ h39
        have hl40 := hl40.mono S310
        have S51 := S51.trans S310
        have h86 := h86.mono S310
        have h100 := S310 _ _ h100
        have hl101 := hl101.mono S310
        have h160 := h160.mono S310
        have r170 := r170.mono S310
        have h178 := h178.mono S310
        have h183 := S310 _ _ h183
        have hl184 := hl184.mono S310
        have h188 := S310 _ _ h188
        have hl189 := hl189.mono S310
        have h197 := h197.mono S310
        have h202 := S310 _ _ h202
        have hl203 := hl203.mono S310
        have S214 := S214.trans S310
        have r226 := r226.mono S310
        have hl273 := hl273.mono S310
        have h279 := h279.mono S310
        have h283 := S310 _ _ h283
        have hl284 := hl284.mono S310
        have h291 := h291.mono S310
        have h296 := S310 _ _ h296
        have hl297 := hl297.mono S310
        have h304 := h304.mono S310
        have hl313 := hl313.mono S310
        have h312 := R.lst (a := (List Int)) h311 hl313
        obtain ⟨p314, w315, e316, h317, hl318⟩ := R.lst_ h279
        cases e316
        obtain ⟨y319, e320, hk⟩ := wp_opt hk
        obtain ⟨w321, e322, r323⟩ := hl318.atI e320
        obtain rfl := R.int_ r323
        obtain ⟨p324, w325, e326, h327, hl328⟩ := R.lst_ h279
        cases e326
        obtain ⟨y329, e330, hk⟩ := wp_opt hk
        obtain ⟨w331, e332, r333⟩ := hl328.atI e330
        obtain rfl := R.int_ r333
        obtain ⟨p334, w335, e336, h337, hl338⟩ := R.lst_ h312
        cases e336
        obtain ⟨y339, e340, hk⟩ := wp_opt hk
        obtain ⟨w341, e342, r343⟩ := hl338.atI e340
        obtain ⟨p344, w345, e346, h347, hl348⟩ := R.lst_ h312
        cases e346
        obtain ⟨y349, e350, hk⟩ := wp_opt hk
        obtain ⟨w351, e352, r353⟩ := hl348.atI e350
        refine ⟨_, rfl, _, rfl, _, _, _, _, rfl, rfl, (SqLF O309.s h317), e322, _, rfl, _, _, _, _, rfl, rfl, (SqLF O309.s h327), e332, _, rfl, _, _, _, _, rfl, rfl, (SqLF O309.s h337), e342, _, rfl, _, _, _, _, rfl, rfl, (SqLF O309.s h347), e352, _, _, _, _, _, _, _, _, _, rfl, O309.pre0, r226, r343, r353, wp_call hk (fun r354 er355 hk F356 H357 g358 => ?_) (fun n hn C H1 hC kp => hn.elim)⟩
        have O359 := O309.call0 g358
        have S_ := g358.f
        have f_script := S_.seq f_script
        have h7 := h7.mono S_
        have h15 := h15.mono S_
        have h20 := S_ _ _ h20
        have hl21 := hl21.mono S_
        have h25 := S_ _ _ h25
        have hl26 := hl26.mono S_
        have h34 := h34.mono S_
        have h39 := S_ _ _ h39
        have hl40 := hl40.mono S_
        have S51 := S51.trans S_
        have h86 := h86.mono S_
        have h100 := S_ _ _ h100
        have hl101 := hl101.mono S_
        have h160 := h160.mono S_
        have r170 := r170.mono S_
        have h178 := h178.mono S_
        have h183 := S_ _ _ h183
        have hl184 := hl184.mono S_
        have h188 := S_ _ _ h188
        have hl189 := hl189.mono S_
        have h197 := h197.mono S_
        have h202 := S_ _ _ h202
        have hl203 := hl203.mono S_
        have S214 := S214.trans S_
        have r226 := r226.mono S_
        have hl273 := hl273.mono S_
        have h279 := h279.mono S_
        have h283 := S_ _ _ h283
        have hl284 := hl284.mono S_
        have h291 := h291.mono S_
        have h296 := S_ _ _ h296
        have hl297 := hl297.mono S_
        have h304 := h304.mono S_
        have h312 := h312.mono S_
        have h317 := S_ _ _ h317
        have hl318 := hl318.mono S_
        have h327 := S_ _ _ h327
        have hl328 := hl328.mono S_
        have h337 := S_ _ _ h337
        have hl338 := hl338.mono S_
        have r343 := r343.mono S_
        have h347 := S_ _ _ h347
        have hl348 := hl348.mono S_
        have r353 := r353.mono S_
        refine fun p361 hp362 => ?_
        have hl364 : RD (κ := Str) (β := IL) F356 [] ([] : (List (Str × IL))) := RD.nil
        have z365 := O359.was hp362
        have O363 := O359.new (o := .dK []) hp362
        obtain ⟨p366, w367, e368, h369, hl370⟩ := R.lst_ h279
        cases e368
        obtain ⟨y371, e372, hk⟩ := wp_opt hk
        obtain ⟨w373, e374, r375⟩ := hl370.atI e372
        obtain rfl := R.int_ r375
        obtain ⟨p376, w377, e378, h379, hl380⟩ := R.lst_ h279
        cases e378
        obtain ⟨y381, e382, hk⟩ := wp_opt hk
        obtain ⟨w383, e384, r385⟩ := hl380.atI e382
        obtain rfl := R.int_ r385
        obtain ⟨p386, w387, e388, h389, hl390⟩ := R.lst_ h279
        cases e388
        refine ⟨_, rfl, _, _, _, _, rfl, rfl, (SqLF O363.s h369), e374, _, rfl, _, _, _, _, rfl, rfl, (SqLF O363.s h379), e384, _, rfl, _, rfl, _, rfl, _, _, rfl, (SqLF O363.s h389), fun p391 hp392 => ?_⟩
        have hl398 : RL (a := Int) F356 (cutV w387 (some (2 : Int)) (some (5 : Int))) (cutL acc265 (some (2 : Int)) (some (5 : Int))) := RL.cutL hl390 (some (2 : Int)) (some (5 : Int))
        obtain ⟨F393, O394, S395, h396⟩ := O363.putE hp392 (.lst (cutV w387 (some (2 : Int)) (some (5 : Int))))
        have f_script := S395.seq f_script
        have h7 := h7.mono S395
        have h15 := h15.mono S395
        have h20 := S395 _ _ h20
        have hl21 := hl21.mono S395
        have h25 := S395 _ _ h25
        have hl26 := hl26.mono S395
        have h34 := h34.mono S395
        have h39 := S395 _ _ h39
        have hl40 := hl40.mono S395
        have S51 := S51.trans S395
        have h86 := h86.mono S395
        have h100 := S395 _ _ h100
        have hl101 := hl101.mono S395
        have h160 := h160.mono S395
        have r170 := r170.mono S395
        have h178 := h178.mono S395
        have h183 := S395 _ _ h183
        have hl184 := hl184.mono S395
        have h188 := S395 _ _ h188
        have hl189 := hl189.mono S395
        have h197 := h197.mono S395
        have h202 := S395 _ _ h202
        have hl203 := hl203.mono S395
        have S214 := S214.trans S395
        have r226 := r226.mono S395
        have hl273 := hl273.mono S395
        have h279 := h279.mono S395
        have h283 := S395 _ _ h283
        have hl284 := hl284.mono S395
        have h291 := h291.mono S395
        have h296 := S395 _ _ h296
        have hl297 := hl297.mono S395
        have h304 := h304.mono S395
        have h312 := h312.mono S395
        have h317 := S395 _ _ h317
        have hl318 := hl318.mono S395
        have h327 := S395 _ _ h327
        have hl328 := hl328.mono S395
        have h337 := S395 _ _ h337
        have hl338 := hl338.mono S395
        have r343 := r343.mono S395
        have h347 := S395 _ _ h347
        have hl348 := hl348.mono S395
        have r353 := r353.mono S395
        have hl364 := hl364.mono S395
        have h369 := S395 _ _ h369
        have hl370 := hl370.mono S395
        have h379 := S395 _ _ h379
        have hl380 := hl380.mono S395
        have h389 := S395 _ _ h389
        have hl390 := hl390.mono S395
        have hl398 := hl398.mono S395
        have h397 := R.lst (a := Int) h396 hl398
        obtain ⟨p399, w400, e401, h402, hl403⟩ := R.lst_ h279
        cases e401
        refine ⟨_, rfl, _, rfl, _, _, rfl, (SqLF O394.s h402), fun p404 hp405 => ?_⟩
        have hl411 : RL (a := Int) F393 (cutV w400 (some (5 : Int)) none) (cutL acc265 (some (5 : Int)) none) := RL.cutL hl403 (some (5 : Int)) none
        obtain ⟨F406, O407, S408, h409⟩ := O394.putE hp405 (.lst (cutV w400 (some (5 : Int)) none))
        have f_script := S408.seq f_script
        have h7 := h7.mono S408
        have h15 := h15.mono S408
        have h20 := S408 _ _ h20
        have hl21 := hl21.mono S408
        have h25 := S408 _ _ h25
        have hl26 := hl26.mono S408
        have h34 := h34.mono S408
        have h39 := S408 _ _ h39
        have hl40 := hl40.mono S408
        have S51 := S51.trans S408
        have h86 := h86.mono S408
        have h100 := S408 _ _ h100
        have hl101 := hl101.mono S408
        have h160 := h160.mono S408
        have r170 := r170.mono S408
        have h178 := h178.mono S408
        have h183 := S408 _ _ h183
        have hl184 := hl184.mono S408
        have h188 := S408 _ _ h188
        have hl189 := hl189.mono S408
        have h197 := h197.mono S408
        have h202 := S408 _ _ h202
        have hl203 := hl203.mono S408
        have S214 := S214.trans S408
        have r226 := r226.mono S408
        have hl273 := hl273.mono S408
        have h279 := h279.mono S408
        have h283 := S408 _ _ h283
        have hl284 := hl284.mono S408
        have h291 := h291.mono S408
        have h296 := S408 _ _ h296
        have hl297 := hl297.mono S408
        have h304 := h304.mono S408
        have h312 := h312.mono S408
        have h317 := S408 _ _ h317
        have hl318 := hl318.mono S408
        have h327 := S408 _ _ h327
        have hl328 := hl328.mono S408
        have h337 := S408 _ _ h337
        have hl338 := hl338.mono S408
        have r343 := r343.mono S408
        have h347 := S408 _ _ h347
        have hl348 := hl348.mono S408
        have r353 := r353.mono S408
        have hl364 := hl364.mono S408
        have h369 := S408 _ _ h369
        have hl370 := hl370.mono S408
        have h379 := S408 _ _ h379
        have hl380 := hl380.mono S408
        have h389 := S408 _ _ h389
        have hl390 := hl390.mono S408
        have h397 := h397.mono S408
        have h402 := S408 _ _ h402
        have hl403 := hl403.mono S408
        have hl411 := hl411.mono S408
        have h410 := R.lst (a := Int) h409 hl411
        refine ⟨(O407.at 0 rfl), [(DK.kk ("own" : Str), V.int y371), (DK.kk ("tie" : Str), V.int y381), (DK.kk ("so" : Str), V.ref p391), (DK.kk ("more" : Str), V.ref p404)], rfl, (by show 4 ≤ 15; decide), ?_⟩
        have O412 := O407.set 0 (.dK (mergeK [] [(DK.kk ("own" : Str), V.int y371), (DK.kk ("tie" : Str), V.int y381), (DK.kk ("so" : Str), V.ref p391), (DK.kk ("more" : Str), V.ref p404)])) rfl
        have hl413 : RD (κ := Str) (β := IL) F406 (mergeK [] [(DK.kk ("own" : Str), V.int y371), (DK.kk ("tie" : Str), V.int y381), (DK.kk ("so" : Str), V.ref p391), (DK.kk ("more" : Str), V.ref p404)]) (mergeDS [(("own" : Str), (IL.i y371)), (("tie" : Str), (IL.i y381)), (("so" : Str), (IL.l (cutL acc265 (some (2 : Int)) (some (5 : Int))))), (("more" : Str), (IL.l (cutL acc265 (some (5 : Int)) none)))]) := merge_rdS (.cons (k := ("own" : Str)) (R.of_i R.int) (.cons (k := ("tie" : Str)) (R.of_i R.int) (.cons (k := ("so" : Str)) (R.of_l h397) (.cons (k := ("more" : Str)) (R.of_l h410) .nil)))) .nil
        refine ⟨_, rfl, _, _, rfl, O412.pre0, wp_call hk (fun r414 er415 hk F416 H417 g418 => ?_) (fun n hn C H1 hC kp => hn.elim)⟩
        have O419 := O412.call0 g418
        have S_ := g418.f
        have f_script := S_.seq f_script
        have h7 := h7.mono S_
        have h15 := h15.mono S_
        have h20 := S_ _ _ h20
        have hl21 := hl21.mono S_
        have h25 := S_ _ _ h25
        have hl26 := hl26.mono S_
        have h34 := h34.mono S_
        have h39 := S_ _ _ h39
        have hl40 := hl40.mono S_
        have S51 := S51.trans S_
        have h86 := h86.mono S_
        have h100 := S_ _ _ h100
        have hl101 := hl101.mono S_
        have h160 := h160.mono S_
        have r170 := r170.mono S_
        have h178 := h178.mono S_
        have h183 := S_ _ _ h183
        have hl184 := hl184.mono S_
        have h188 := S_ _ _ h188
        have hl189 := hl189.mono S_
        have h197 := h197.mono S_
        have h202 := S_ _ _ h202
        have hl203 := hl203.mono S_
        have S214 := S214.trans S_
        have r226 := r226.mono S_
        have hl273 := hl273.mono S_
        have h279 := h279.mono S_
        have h283 := S_ _ _ h283
        have hl284 := hl284.mono S_
        have h291 := h291.mono S_
        have h296 := S_ _ _ h296
        have hl297 := hl297.mono S_
        have h304 := h304.mono S_
        have h312 := h312.mono S_
        have h317 := S_ _ _ h317
        have hl318 := hl318.mono S_
        have h327 := S_ _ _ h327
        have hl328 := hl328.mono S_
        have h337 := S_ _ _ h337
        have hl338 := hl338.mono S_
        have r343 := r343.mono S_
        have h347 := S_ _ _ h347
        have hl348 := hl348.mono S_
        have r353 := r353.mono S_
        have h369 := S_ _ _ h369
        have hl370 := hl370.mono S_
        have h379 := S_ _ _ h379
        have hl380 := hl380.mono S_
        have h389 := S_ _ _ h389
        have hl390 := hl390.mono S_
        have h397 := h397.mono S_
        have h402 := S_ _ _ h402
        have hl403 := hl403.mono S_
        have h410 := h410.mono S_
        have hl413 := hl413.mono S_
        refine ⟨_, rfl, ?_⟩
        refine iteBN (fun q420 => ?_) (fun q420 => ?_)
        · have hk := wp_if hk q420
          have hi421 : ∀ b ∈ ([p361] : List Addr), ∃ o, (b, o) ∈ ([(p361, .dK (mergeK [] [(DK.kk ("own" : Str), V.int y371), (DK.kk ("tie" : Str), V.int y381), (DK.kk ("so" : Str), V.ref p391), (DK.kk ("more" : Str), V.ref p404)])), (p71, .lst w272)] : List (Addr × HO)) := (inA_cons 0 rfl inA_nil)
          have S422 := O419.lendS hi421
          have h423 := RDv.mk (κ := Str) (β := IL) ((lendF_at (by simp)).trans (O419.at 0 rfl) : lendF [p361] F416 _ p361 = some (.dK (mergeK [] [(DK.kk ("own" : Str), V.int y371), (DK.kk ("tie" : Str), V.int y381), (DK.kk ("so" : Str), V.ref p391), (DK.kk ("more" : Str), V.ref p404)]))) (hl413.mono S422)
          refine ⟨_, rfl, _, rfl, _, rfl, _, _, _, _, _, rfl, (O419.lendP hi421), (r226.mono S422), h423, wp_call hk (fun r424 er425 hk F426 H427 g428 => ?_) (fun n hn C H1 hC kp => hn.elim)⟩
          have O429 := O419.borrow S422 g428
          refine ⟨_, _, R.int, R.int, _, rfl, ?_⟩
          refine iteD (fun q430 => ?_) (fun q430 => ?_)
          · have hk := wp_if hk q430
            refine iteT ?_
            exact hk _ _  O429.g 
          · have hk := wp_el hk q430
            obtain ⟨p431, w432, e433, h434, hl435⟩ := R.lst_ h279
            cases e433
            refine ⟨_, rfl, _, rfl, _, rfl, _, rfl, _, _, rfl, (SqLF O429.s h434), fun p436 hp437 => ?_⟩
            have hl443 : RL (a := Int) F416 (cutV w432 (some (2 : Int)) (some (5 : Int))) (cutL acc265 (some (2 : Int)) (some (5 : Int))) := RL.cutL hl435 (some (2 : Int)) (some (5 : Int))
            obtain ⟨F438, O439, S440, h441⟩ := O429.putE hp437 (.lst (cutV w432 (some (2 : Int)) (some (5 : Int))))
            have f_script := S440.seq f_script
            have h7 := h7.mono S440
            have h15 := h15.mono S440
            have h20 := S440 _ _ h20
            have hl21 := hl21.mono S440
            have h25 := S440 _ _ h25
            have hl26 := hl26.mono S440
            have h34 := h34.mono S440
            have h39 := S440 _ _ h39
            have hl40 := hl40.mono S440
            have S51 := S51.trans S440
            have h86 := h86.mono S440
            have h100 := S440 _ _ h100
            have hl101 := hl101.mono S440
            have h160 := h160.mono S440
            have r170 := r170.mono S440
            have h178 := h178.mono S440
            have h183 := S440 _ _ h183
            have hl184 := hl184.mono S440
            have h188 := S440 _ _ h188
            have hl189 := hl189.mono S440
            have h197 := h197.mono S440
            have h202 := S440 _ _ h202
            have hl203 := hl203.mono S440
            have S214 := S214.trans S440
            have r226 := r226.mono S440
            have hl273 := hl273.mono S440
            have h279 := h279.mono S440
            have h283 := S440 _ _ h283
            have hl284 := hl284.mono S440
            have h291 := h291.mono S440
            have h296 := S440 _ _ h296
            have hl297 := hl297.mono S440
            have h304 := h304.mono S440
            have h312 := h312.mono S440
            have h317 := S440 _ _ h317
            have hl318 := hl318.mono S440
            have h327 := S440 _ _ h327
            have hl328 := hl328.mono S440
            have h337 := S440 _ _ h337
            have hl338 := hl338.mono S440
            have r343 := r343.mono S440
            have h347 := S440 _ _ h347
            have hl348 := hl348.mono S440
            have r353 := r353.mono S440
            have h369 := S440 _ _ h369
            have hl370 := hl370.mono S440
            have h379 := S440 _ _ h379
            have hl380 := hl380.mono S440
            have h389 := S440 _ _ h389
            have hl390 := hl390.mono S440
            have h397 := h397.mono S440
            have h402 := S440 _ _ h402
            have hl403 := hl403.mono S440
            have h410 := h410.mono S440
            have hl413 := hl413.mono S440
            have h434 := S440 _ _ h434
            have hl435 := hl435.mono S440
            have hl443 := hl443.mono S440
            have h442 := R.lst (a := Int) h441 hl443
            obtain ⟨p444, w445, e446, h447, hl448⟩ := R.lst_ h279
            cases e446
            refine ⟨_, rfl, _, rfl, _, _, rfl, (SqLF O439.s h447), fun p449 hp450 => ?_⟩
            have hl456 : RL (a := Int) F438 (cutV w445 (some (5 : Int)) none) (cutL acc265 (some (5 : Int)) none) := RL.cutL hl448 (some (5 : Int)) none
            obtain ⟨F451, O452, S453, h454⟩ := O439.putE hp450 (.lst (cutV w445 (some (5 : Int)) none))
            have f_script := S453.seq f_script
            have h7 := h7.mono S453
            have h15 := h15.mono S453
            have h20 := S453 _ _ h20
            have hl21 := hl21.mono S453
            have h25 := S453 _ _ h25
            have hl26 := hl26.mono S453
            have h34 := h34.mono S453
            have h39 := S453 _ _ h39
            have hl40 := hl40.mono S453
            have S51 := S51.trans S453
            have h86 := h86.mono S453
            have h100 := S453 _ _ h100
            have hl101 := hl101.mono S453
            have h160 := h160.mono S453
            have r170 := r170.mono S453
            have h178 := h178.mono S453
            have h183 := S453 _ _ h183
            have hl184 := hl184.mono S453
            have h188 := S453 _ _ h188
            have hl189 := hl189.mono S453
            have h197 := h197.mono S453
            have h202 := S453 _ _ h202
            have hl203 := hl203.mono S453
            have S214 := S214.trans S453
            have r226 := r226.mono S453
            have hl273 := hl273.mono S453
            have h279 := h279.mono S453
            have h283 := S453 _ _ h283
            have hl284 := hl284.mono S453
            have h291 := h291.mono S453
            have h296 := S453 _ _ h296
            have hl297 := hl297.mono S453
            have h304 := h304.mono S453
            have h312 := h312.mono S453
            have h317 := S453 _ _ h317
            have hl318 := hl318.mono S453
            have h327 := S453 _ _ h327
            have hl328 := hl328.mono S453
            have h337 := S453 _ _ h337
            have hl338 := hl338.mono S453
            have r343 := r343.mono S453
            have h347 := S453 _ _ h347
            have hl348 := hl348.mono S453
            have r353 := r353.mono S453
            have h369 := S453 _ _ h369
            have hl370 := hl370.mono S453
            have h379 := S453 _ _ h379
            have hl380 := hl380.mono S453
            have h389 := S453 _ _ h389
            have hl390 := hl390.mono S453
            have h397 := h397.mono S453
            have h402 := S453 _ _ h402
            have hl403 := hl403.mono S453
            have h410 := h410.mono S453
            have hl413 := hl413.mono S453
            have h434 := S453 _ _ h434
            have hl435 := hl435.mono S453
            have h442 := h442.mono S453
            have h447 := S453 _ _ h447
            have hl448 := hl448.mono S453
            have hl456 := hl456.mono S453
            have h455 := R.lst (a := Int) h454 hl456
            refine ⟨(by show 2 ≤ sizeLine; decide), fun p457 hp458 => ?_⟩
            have hl464 : RL (a := (List Int)) F451 ([V.ref p436, V.ref p449]) ([(cutL acc265 (some (2 : Int)) (some (5 : Int))), (cutL acc265 (some (5 : Int)) none)]) := RL.cons h442 (RL.cons h455 RL.nil)
            obtain ⟨F459, O460, S461, h462⟩ := O452.putE hp458 (.lst ([V.ref p436, V.ref p449]))
            have f_script := S461.seq f_script
            have h7 := h7.mono S461
            have h15 := h15.mono S461
            have h20 := S461 _ _ h20
            have hl21 := hl21.mono S461
            have h25 := S461 _ _ h25
            have hl26 := hl26.mono S461
            have h34 := h34.mono S461
            have h39 := S461 _ _ h39
            have hl40 := hl40.mono S461
            have S51 := S51.trans S461
            have h86 := h86.mono S461
            have h100 := S461 _ _ h100
            have hl101 := hl101.mono S461
            have h160 := h160.mono S461
            have r170 := r170.mono S461
            have h178 := h178.mono S461
            have h183 := S461 _ _ h183
            have hl184 := hl184.mono S461
            have h188 := S461 _ _ h188
            have hl189 := hl189.mono S461
            have h197 := h197.mono S461
            have h202 := S461 _ _ h202
            have hl203 := hl203.mono S461
            have S214 := S214.trans S461
            have r226 := r226.mono S461
            have hl273 := hl273.mono S461
            have h279 := h279.mono S461
            have h283 := S461 _ _ h283
            have hl284 := hl284.mono S461
            have h291 := h291.mono S461
            have h296 := S461 _ _ h296
            have hl297 := hl297.mono S461
            have h304 := h304.mono S461
            have h312 := h312.mono S461
            have h317 := S461 _ _ h317
            have hl318 := hl318.mono S461
            have h327 := S461 _ _ h327
            have hl328 := hl328.mono S461
            have h337 := S461 _ _ h337
            have hl338 := hl338.mono S461
            have r343 := r343.mono S461
            have h347 := S461 _ _ h347
            have hl348 := hl348.mono S461
            have r353 := r353.mono S461
            have h369 := S461 _ _ h369
            have hl370 := hl370.mono S461
            have h379 := S461 _ _ h379
            have hl380 := hl380.mono S461
            have h389 := S461 _ _ h389
            have hl390 := hl390.mono S461
            have h397 := h397.mono S461
            have h402 := S461 _ _ h402
            have hl403 := hl403.mono S461
            have h410 := h410.mono S461
            have hl413 := hl413.mono S461
            have h434 := S461 _ _ h434
            have hl435 := hl435.mono S461
            have h442 := h442.mono S461
            have h447 := S461 _ _ h447
            have hl448 := hl448.mono S461
            have h455 := h455.mono S461
            have hl464 := hl464.mono S461
            have h463 := R.lst (a := (List Int)) h462 hl464
            refine ⟨_, _, (R.mono h312 O460.s), (R.mono h463 O460.s), _, rfl, ?_⟩
            refine iteD (fun q465 => ?_) (fun q465 => ?_)
            · have hk := wp_if hk q465
              exact hk _ _  O460.g 
            · have hk := wp_el hk q465
              have O466 := O460.drop 0
              exact ⟨F459, st264, w272, some x210, some (V.ref p234), some (V.ref p306), some (V.int r354), some (V.ref p361), rfl, S214, O466, hl273, hk⟩
        · have hk := wp_el hk q420
          refine iteT ?_
          exact hk _ _  O419.g 
      rintro sg467 H468 ⟨F479, st470, w472, t474, t475, t476, t477, t478, rfl, S469, O480, hl473, hL471⟩
      rw [drop_end hl203.len] at hL471
      have hk := hLd208 _ hL471
      have f_script := S469.seq f_script
      have h7 := h7.mono S469
      have h15 := h15.mono S469
      have h20 := S469 _ _ h20
      have hl21 := hl21.mono S469
      have h25 := S469 _ _ h25
      have hl26 := hl26.mono S469
      have h34 := h34.mono S469
      have h39 := S469 _ _ h39
      have hl40 := hl40.mono S469
      have S51 := S51.trans S469
      have h86 := h86.mono S469
      have h100 := S469 _ _ h100
      have hl101 := hl101.mono S469
      have h160 := h160.mono S469
      have r170 := r170.mono S469
      have h178 := h178.mono S469
      have h183 := S469 _ _ h183
      have hl184 := hl184.mono S469
      have h188 := S469 _ _ h188
      have hl189 := hl189.mono S469
      have h197 := h197.mono S469
      have h202 := S469 _ _ h202
      have hl203 := hl203.mono S469
      have O482 := O480.drop 0
      exact ⟨F479, (), some (V.int y41), some (V.ref p71), some (V.int y102), t474, t475, t476, t477, t478, rfl, S51, O482, hk⟩
    rintro sg483 H484 ⟨F496, st486, t488, t489, t490, t491, t492, t493, t494, t495, rfl, S485, O497, hL487⟩
    rw [drop_end hl40.len] at hL487
    have hk := hLd45 _ hL487
    have f_script := S485.seq f_script
    have h7 := h7.mono S485
    have h15 := h15.mono S485
    have h20 := S485 _ _ h20
    have hl21 := hl21.mono S485
    have h25 := S485 _ _ h25
    have hl26 := hl26.mono S485
    have h34 := h34.mono S485
    have h39 := S485 _ _ h39
    have hl40 := hl40.mono S485
    exact hk _ _  O497.g 
end
set_option maxHeartbeats 2000000
/-! ### the law's own helpers -/
theorem take_ok (d m : Int) (h : 0 < m) (h2 : m ≤ 10 ^ 40) : m_law_take [d] m = .ok (d % m, [d / m]) := by
  unfold m_law_take
  rw [opt_b (show L2.atI [d] (0 : Int) = some d from rfl), chk_b h, opt_b (show L2.atI [d] (0 : Int) = some d from rfl), chk_b (cdivW h h2)]
  rfl
theorem pow10 (n : Nat) : (10 : Int) ^ n = ((10 ^ n : Nat) : Int) := by rw [Int.natCast_pow]; rfl
theorem stir_ok (c k : Int) (h : 1 ≤ k ∧ k ≤ 3) : ∃ s, m_law_stir c k = .ok s ∧ 0 ≤ s ∧ s < 10 ^ 62 := by
  unfold m_law_stir
  have e40 : (10 : Int) ^ Int.toNat (40 : Int) = 10000000000000000000000000000000000000000 := by decide
  have e60 : (3 : Int) ^ Int.toNat (60 : Int) = 42391158275216203514294433201 := by decide
  have e61 : (10 : Int) ^ Int.toNat (61 : Int) = 10000000000000000000000000000000000000000000000000000000000000 := by decide
  rw [e40, e60, e61]
  obtain ⟨r, hr⟩ : ∃ r, r = c % 10000000000000000000000000000000000000000 := ⟨_, rfl⟩
  have r0 : 0 ≤ r := by omega
  have r1 : r < 10000000000000000000000000000000000000000 := by omega
  rw [← hr]
  rw [chk_b (by decide)]
  rw [chk_b (cmulW (Nat.lt_of_lt_of_le (m := 10 ^ 40) (by omega) (by decide +kernel)) (by decide +kernel))]
  rw [chk_b (cmulW (by decide +kernel) (Nat.lt_of_lt_of_le (m := 5) (by omega) (by decide +kernel)))]
  obtain ⟨q, hq⟩ : ∃ q, q = 42391158275216203514294433201 * (k + 1) := ⟨_, rfl⟩
  have q0 : 0 ≤ q ∧ q ≤ 42391158275216203514294433201 * 4 := by omega
  rw [← hq]
  rw [chk_b (cmulW (Nat.lt_of_lt_of_le (m := 10 ^ 40) (by omega) (by decide +kernel)) (Nat.lt_of_lt_of_le (m := 5) (by omega) (by decide +kernel)))]
  have q2 : 0 ≤ q * (k + 1) ∧ q * (k + 1) ≤ 42391158275216203514294433201 * 16 := by
    have : k = 1 ∨ k = 2 ∨ k = 3 := by omega
    rcases this with rfl | rfl | rfl <;> omega
  rw [ret_b]
  obtain ⟨n, hn⟩ : ∃ n, n = r * 48271 + q * (k + 1) + k := ⟨_, rfl⟩
  rw [← hn]
  have n0 : 0 ≤ n := by omega
  have n1 : n.natAbs < 2 ^ 160 := Nat.lt_of_lt_of_le (m := 10 ^ 46) (by omega) (by decide)
  rw [chk_b (cmulW (Nat.lt_of_lt_of_le n1 (Nat.pow_le_pow_right (by decide) (by decide))) (Nat.lt_of_lt_of_le n1 (Nat.pow_le_pow_right (by decide) (by decide))))]
  rw [chk_b (cmulW (by decide +kernel) (Nat.lt_of_lt_of_le n1 (Nat.pow_le_pow_right (by decide) (by decide))))]
  rw [ret_b]
  have m1 : (n * n).natAbs < 2 ^ (160 + 160) := wide_lt n1 n1
  have m2 : ((69621 : Int) * n).natAbs < 2 ^ (17 + 160) := wide_lt (by decide) n1
  have m3 : (n * n + 69621 * n).natAbs < 2 ^ 321 := by
    have a1 := Int.natAbs_add_le (n * n) (69621 * n)
    have a2 : (2 : Nat) ^ (17 + 160) ≤ 2 ^ 320 := Nat.pow_le_pow_right (by decide) (by decide)
    have a3 : (2 : Nat) ^ 321 = 2 ^ 320 + 2 ^ 320 := by decide
    omega
  rw [chk_b (cmulW (Nat.lt_of_lt_of_le m3 (Nat.pow_le_pow_right (by decide) (by decide))) (Nat.lt_of_lt_of_le m3 (Nat.pow_le_pow_right (by decide) (by decide))))]
  rw [chk_b (by decide), chk_b (cdivW (by decide) (by decide))]
  refine ⟨_, rfl, ?_⟩
  have : (10 : Int) ^ 62 = 100000000000000000000000000000000000000000000000000000000000000 := by decide
  rw [this]
  omega
theorem deck_ok (c : Int) : ∃ d, m_law_deck c = .ok [d] := by
  unfold m_law_deck
  have e60 : (10 : Int) ^ Int.toNat (60 : Int) = 10 ^ 60 := rfl
  by_cases h : (10 : Int) ^ Int.toNat (18 : Int) ≤ c
  · rw [if_pos h]
    exact ⟨_, rfl⟩
  · rw [if_neg h]
    obtain ⟨s1, e1, a1, b1⟩ := stir_ok c 1 (by decide)
    obtain ⟨s2, e2, a2, b2⟩ := stir_ok c 2 (by decide)
    obtain ⟨s3, e3, _, _⟩ := stir_ok c 3 (by decide)
    have k62 : ((10 : Int) ^ 62).natAbs < 2 ^ 210 := by decide
    have w1 : s1.natAbs < 2 ^ 210 := wide_le a1 (Int.le_of_lt b1) k62
    have w2 : s2.natAbs < 2 ^ 210 := wide_le a2 (Int.le_of_lt b2) k62
    have k60 : ((10 : Int) ^ 60).natAbs < 2 ^ 200 := by decide
    rw [bind_ok e1, e60, chk_b (cmulW (Nat.lt_of_lt_of_le w1 (Nat.pow_le_pow_right (by decide) (by decide))) (Nat.lt_of_lt_of_le k60 (Nat.pow_le_pow_right (by decide) (by decide)))), bind_ok e2]
    have m1 : (s1 * 10 ^ 60).natAbs < 2 ^ (210 + 200) := wide_lt w1 k60
    have m2 : (s1 * 10 ^ 60 + s2).natAbs < 2 ^ 411 := by
      have x1 := Int.natAbs_add_le (s1 * 10 ^ 60) s2
      have x2 : (2 : Nat) ^ 210 ≤ 2 ^ 410 := Nat.pow_le_pow_right (by decide) (by decide)
      have x3 : (2 : Nat) ^ 411 = 2 ^ 410 + 2 ^ 410 := by decide
      omega
    rw [chk_b (cmulW (Nat.lt_of_lt_of_le m2 (Nat.pow_le_pow_right (by decide) (by decide))) (Nat.lt_of_lt_of_le k60 (Nat.pow_le_pow_right (by decide) (by decide)))), bind_ok e3]
    exact ⟨_, rfl⟩
/-- how far numbers go -/
def farB : Int := 100000000000000000000000000000
theorem take_small (d m : Int) (h : 0 < m) (h2 : m ≤ 1000000) : ∃ x d', m_law_take [d] m = .ok (x, [d']) ∧ 0 ≤ x ∧ x < m := by
  have k : (10 : Int) ^ 40 = 10000000000000000000000000000000000000000 := by decide
  exact ⟨_, _, take_ok d m h (by omega), Int.emod_nonneg _ (by omega), Int.emod_lt_of_pos _ h⟩
theorem rangeL_mem {lo hi x : Int} : x ∈ rangeL lo hi ↔ lo ≤ x ∧ x < hi := by
  unfold rangeL
  rw [List.mem_map]
  constructor
  · rintro ⟨j, hj, rfl⟩
    have := List.mem_range.mp hj
    omega
  · rintro ⟨h1, h2⟩
    exact ⟨(x - lo).toNat, List.mem_range.mpr (by omega), by omega⟩
theorem rangeL_nodup (lo hi : Int) : (rangeL lo hi).Nodup := by
  unfold rangeL
  rw [List.nodup_iff_pairwise_ne, List.pairwise_map]
  exact List.nodup_range.imp fun h e => h (by omega)
/-- an order of all places -/

theorem cut10 (ns : List Int) (k : Nat) : (cutL ns none (some (k : Int))).length ≤ ns.length := by
  unfold cutL
  rw [List.length_take, List.length_drop]
  omega
theorem at4 (k : Int) (h : 0 ≤ k) (h4 : k < 4) : ∃ x, L2.atI [(10 : Int), 10, 10, 40] k = some x ∧ (x = 10 ∨ x = 40) := by
  obtain ⟨x, e1, e2⟩ := atI_some (xs := [(10 : Int), 10, 10, 40]) h (by simpa using h4)
  refine ⟨x, e1, ?_⟩
  have hm := List.mem_of_getElem? e2
  simp only [List.mem_cons, List.not_mem_nil, or_false] at hm
  omega

theorem dPut_new {κ β : Type} [DecidableEq κ] {xs : List (κ × β)} {k : κ} {y : β} (h : ∀ p ∈ xs, p.1 ≠ k) : dPut xs k y = xs ++ [(k, y)] := by
  unfold dPut
  rw [if_neg]
  intro z
  obtain ⟨p, hp, e⟩ := List.any_eq_true.mp z
  exact h p hp (of_decide_eq_true e)

theorem comp2 {i c : Type} {f : i → Unit → M (Option c × Unit)} {a b : i} {va vb : c} (ha : f a () = .ok (some va, ())) (hb : f b () = .ok (some vb, ())) : compS f [a, b] () = .ok ([va, vb], ()) := by
  unfold compS
  rw [chk_b (show [a, b].length < 16777216 by show 2 < 16777216; decide)]
  show (nox (f a ()) >>= _) = _
  rw [ha]
  show (nox (f b ()) >>= _) = _
  rw [hb]
  rfl
theorem s_no : ¬ ("own" : Str) = ("number" : Str) := by decide +kernel
theorem s_nt : ¬ ("tie" : Str) = ("number" : Str) := by decide +kernel
theorem s_ns : ¬ ("so" : Str) = ("number" : Str) := by decide +kernel
theorem s_nm : ¬ ("more" : Str) = ("number" : Str) := by decide +kernel
theorem s_to : ¬ ("tie" : Str) = ("own" : Str) := by decide +kernel
theorem s_so : ¬ ("so" : Str) = ("own" : Str) := by decide +kernel
theorem s_mo : ¬ ("more" : Str) = ("own" : Str) := by decide +kernel
theorem s_st : ¬ ("so" : Str) = ("tie" : Str) := by decide +kernel
theorem s_mt : ¬ ("more" : Str) = ("tie" : Str) := by decide +kernel
theorem s_ms : ¬ ("more" : Str) = ("so" : Str) := by decide +kernel
def Leaf (x : Sm) : Prop := (∃ n : Int, x = .num "number" n ∧ n.natAbs < 100) ∨ x = .nam "own" ∨ x = .nam "tie" ∨ (∃ k : Int, x = .num "so" k ∧ 0 ≤ k ∧ k < 3) ∨ ∃ k : Int, x = .num "more" k ∧ 0 ≤ k ∧ k < 3
def OpW (w : Str) : Prop := w = "plus" ∨ w = "less" ∨ w = "times" ∨ w = "most" ∨ w = "least"
def Good : Nat → Sm → Prop
  | 0, _ => False
  | d + 1, x => Leaf x ∨ ∃ w a b, x = .two w a b ∧ OpW w ∧ Good d a ∧ Good d b
theorem Good.up : ∀ {d : Nat} {x : Sm}, Good d x → Good (d + 1) x
  | 0, _, h => h.elim
  | d + 1, x, h => by
    rcases h with h | ⟨w, a, b, e, o, ha, hb⟩
    · exact .inl h
    · exact .inr ⟨w, a, b, e, o, Good.up ha, Good.up hb⟩
theorem Good.le {d e : Nat} {x : Sm} (h : Good d x) (l : d ≤ e) : Good e x := by
  induction l with
  | refl => exact h
  | step _ ih => exact ih.up
theorem bnd (d : Nat) : 2 ^ (100 * 2 ^ (d + 1)) = 2 ^ (100 * 2 ^ d) * 2 ^ (100 * 2 ^ d) := by
  rw [← Nat.pow_add, Nat.pow_succ]
  congr 1
  omega
theorem bnd0 (d : Nat) : 2 ^ 100 ≤ 2 ^ (100 * 2 ^ d) := Nat.pow_le_pow_right (by decide) (by have := Nat.one_le_two_pow (n := d); omega)
theorem bnd1 {d : Nat} (h : d ≤ 11) : 100 * 2 ^ d ≤ 204800 := by
  have := Nat.pow_le_pow_right (n := 2) (by decide) h
  omega
theorem two_le (d : Nat) : 2 ≤ 2 ^ (100 * 2 ^ d) := Nat.le_trans (by decide) (bnd0 d)
theorem add_bnd {X a b : Nat} (hX : 2 ≤ X) (ha : a < X) (hb : b < X) : a + b < X * X := by
  have : 2 * X ≤ X * X := Nat.mul_le_mul_right X hX
  omega
theorem one_bnd {X a : Nat} (hX : 2 ≤ X) (ha : a < X) : a < X * X := by
  have : 2 * X ≤ X * X := Nat.mul_le_mul_right X hX
  omega
def knownOf (own tie : Int) (so more : List Int) : List (Str × IL) := [("own", .i own), ("tie", .i tie), ("so", .l so), ("more", .l more)]
theorem merge_newS {β : Type} : ∀ {xs ac : List (Str × β)}, ((ac ++ xs).map (·.1)).Nodup → xs.foldl (fun acc p => dPut acc p.1 p.2) ac = ac ++ xs
  | [], ac, _ => by simp
  | x :: xs, ac, h => by
    rw [List.foldl_cons]
    have hn : ∀ p ∈ ac, p.1 ≠ x.1 := fun p hp e => by
      rw [List.map_append, List.map_cons, List.nodup_append] at h
      exact h.2.2 p.1 (List.mem_map.mpr ⟨p, hp, rfl⟩) x.1 List.mem_cons_self e
    rw [dPut_new hn, merge_newS (by rw [List.append_assoc]; exact h), List.append_assoc]
    rfl
theorem known_merge (own tie : Int) (so more : List Int) : mergeDS [(("own" : Str), (IL.i own)), (("tie" : Str), (IL.i tie)), (("so" : Str), (IL.l so)), (("more" : Str), (IL.l more))] = knownOf own tie so more := by
  unfold mergeDS
  rw [merge_newS (by
    show ([("own" : Str), "tie", "so", "more"]).Nodup
    decide +kernel)]
  rfl
section
variable {own tie : Int} {so more : List Int}
theorem k_own : dGet (knownOf own tie so more) ("own" : Str) = some (.i own) := dGet_pos rfl
theorem k_tie : dGet (knownOf own tie so more) ("tie" : Str) = some (.i tie) := by
  unfold knownOf
  rw [dGet_neg (fun e => s_to e.symm)]
  exact dGet_pos rfl
theorem k_so : dGet (knownOf own tie so more) ("so" : Str) = some (.l so) := by
  unfold knownOf
  rw [dGet_neg (fun e => s_so e.symm), dGet_neg (fun e => s_st e.symm)]
  exact dGet_pos rfl
theorem k_more : dGet (knownOf own tie so more) ("more" : Str) = some (.l more) := by
  unfold knownOf
  rw [dGet_neg (fun e => s_mo e.symm), dGet_neg (fun e => s_mt e.symm), dGet_neg (fun e => s_ms e.symm)]
  exact dGet_pos rfl
theorem leaf_eval {d : Nat} {x : Sm} (h : Leaf x) (ho : own.natAbs < 2 ^ 100) (ht : tie.natAbs < 2 ^ 100) (hs : so.length = 3) (hm : more.length = 3) (hs2 : ∀ y ∈ so, y.natAbs < 2 ^ 100) (hm2 : ∀ y ∈ more, y.natAbs < 2 ^ 100) :
    ∃ v, m_sum_at (d + 1) x own tie so more = .ok v ∧ m_law_value (d + 1) x (knownOf own tie so more) = .ok v ∧ v.natAbs < 2 ^ 100 := by
  rcases h with ⟨n, e, hn⟩ | e | e | ⟨k, e, k0, k3⟩ | ⟨k, e, k0, k3⟩
  · subst e
    refine ⟨n, ?_, ?_, Nat.lt_of_lt_of_le hn (by decide)⟩
    · unfold m_sum_at
      rw [if_pos (show Sm.word (.num "number" n) = ("number" : Str) from rfl)]
      rfl
    · unfold m_law_value
      rw [if_pos (show Sm.word (.num "number" n) = ("number" : Str) from rfl)]
      rfl
  · subst e
    refine ⟨own, ?_, ?_, ho⟩
    · unfold m_sum_at
      rw [if_neg (show ¬ Sm.word (.nam "own") = ("number" : Str) from s_no), if_pos (show Sm.word (.nam "own") = ("own" : Str) from rfl)]
    · unfold m_law_value
      rw [if_neg (show ¬ Sm.word (.nam "own") = ("number" : Str) from s_no), if_pos (show Sm.word (.nam "own") ∈ ([("own" : Str), "tie"] : List Str) from List.mem_cons_self)]
      rw [opt_b (show dGet (knownOf own tie so more) (Sm.word (.nam "own")) = some (.i own) from k_own)]
      rfl
  · subst e
    refine ⟨tie, ?_, ?_, ht⟩
    · unfold m_sum_at
      rw [if_neg (show ¬ Sm.word (.nam "tie") = ("number" : Str) from s_nt), if_neg (show ¬ Sm.word (.nam "tie") = ("own" : Str) from s_to), if_pos (show Sm.word (.nam "tie") = ("tie" : Str) from rfl)]
    · unfold m_law_value
      rw [if_neg (show ¬ Sm.word (.nam "tie") = ("number" : Str) from s_nt), if_pos (show Sm.word (.nam "tie") ∈ ([("own" : Str), "tie"] : List Str) from List.mem_cons_of_mem _ List.mem_cons_self)]
      rw [opt_b (show dGet (knownOf own tie so more) (Sm.word (.nam "tie")) = some (.i tie) from k_tie)]
      rfl
  · subst e
    obtain ⟨v, e1, e2⟩ := atI_some (xs := so) (j := k) k0 (by omega)
    refine ⟨v, ?_, ?_, hs2 v (List.mem_of_getElem? e2)⟩
    · unfold m_sum_at
      rw [if_neg (show ¬ Sm.word (.num "so" k) = ("number" : Str) from s_ns), if_neg (show ¬ Sm.word (.num "so" k) = ("own" : Str) from s_so), if_neg (show ¬ Sm.word (.num "so" k) = ("tie" : Str) from s_st), if_pos (show Sm.word (.num "so" k) = ("so" : Str) from rfl)]
      show (opt (atI so k) >>= _) = _
      rw [opt_b e1]
    · unfold m_law_value
      rw [if_neg (show ¬ Sm.word (.num "so" k) = ("number" : Str) from s_ns), if_neg (show ¬ Sm.word (.num "so" k) ∈ ([("own" : Str), "tie"] : List Str) from fun z => by
        rcases List.mem_cons.mp z with z | z
        · exact s_so z
        · exact s_st (List.mem_singleton.mp z)), if_pos (show Sm.word (.num "so" k) ∈ ([("so" : Str), "more"] : List Str) from List.mem_cons_self)]
      rw [opt_b (show dGet (knownOf own tie so more) (Sm.word (.num "so" k)) = some (.l so) from k_so)]
      show (opt (atI so k) >>= _) = _
      rw [opt_b e1]
  · subst e
    obtain ⟨v, e1, e2⟩ := atI_some (xs := more) (j := k) k0 (by omega)
    refine ⟨v, ?_, ?_, hm2 v (List.mem_of_getElem? e2)⟩
    · unfold m_sum_at
      rw [if_neg (show ¬ Sm.word (.num "more" k) = ("number" : Str) from s_nm), if_neg (show ¬ Sm.word (.num "more" k) = ("own" : Str) from s_mo), if_neg (show ¬ Sm.word (.num "more" k) = ("tie" : Str) from s_mt), if_neg (show ¬ Sm.word (.num "more" k) = ("so" : Str) from s_ms), if_pos (show Sm.word (.num "more" k) = ("more" : Str) from rfl)]
      show (opt (atI more k) >>= _) = _
      rw [opt_b e1]
    · unfold m_law_value
      rw [if_neg (show ¬ Sm.word (.num "more" k) = ("number" : Str) from s_nm), if_neg (show ¬ Sm.word (.num "more" k) ∈ ([("own" : Str), "tie"] : List Str) from fun z => by
        rcases List.mem_cons.mp z with z | z
        · exact s_mo z
        · exact s_mt (List.mem_singleton.mp z)), if_pos (show Sm.word (.num "more" k) ∈ ([("so" : Str), "more"] : List Str) from List.mem_cons_of_mem _ List.mem_cons_self)]
      rw [opt_b (show dGet (knownOf own tie so more) (Sm.word (.num "more" k)) = some (.l more) from k_more)]
      show (opt (atI more k) >>= _) = _
      rw [opt_b e1]
theorem op_sum {d : Nat} {w : Str} {a b : Sm} {va vb : Int} (hw : OpW w) (ha : m_sum_at d a own tie so more = .ok va) (hb : m_sum_at d b own tie so more = .ok vb) :
    m_sum_at (d + 1) (.two w a b) own tie so more = (if w = ("plus" : Str) then .ok (va + vb) else if w = ("less" : Str) then .ok (va - vb) else if w = ("times" : Str) then (chk (CMulW va vb) >>= fun _ => .ok (va * vb)) else if w = ("most" : Str) then .ok (if vb > va then vb else va) else .ok (if vb < va then vb else va)) := by
  have h1 : ¬ w = ("number" : Str) ∧ ¬ w = ("own" : Str) ∧ ¬ w = ("tie" : Str) ∧ ¬ w = ("so" : Str) ∧ ¬ w = ("more" : Str) := by
    rcases hw with e | e | e | e | e <;> subst e <;> decide +kernel
  unfold m_sum_at
  rw [if_neg (show ¬ Sm.word (.two w a b) = _ from h1.1), if_neg (show ¬ Sm.word (.two w a b) = _ from h1.2.1), if_neg (show ¬ Sm.word (.two w a b) = _ from h1.2.2.1), if_neg (show ¬ Sm.word (.two w a b) = _ from h1.2.2.2.1), if_neg (show ¬ Sm.word (.two w a b) = _ from h1.2.2.2.2)]
  rw [opt_b (show Sm.two? (.two w a b) = some (a, b) from rfl)]
  rw [bind_ok (comp2 (va := va) (vb := vb) (by show (m_sum_at d a own tie so more >>= _) = _; rw [bind_ok ha]) (by show (m_sum_at d b own tie so more >>= _) = _; rw [bind_ok hb]))]
  rfl
theorem op_val {d : Nat} {w : Str} {a b : Sm} {va vb : Int} {kn : List (Str × IL)} (hw : OpW w) (ha : m_law_value d a kn = .ok va) (hb : m_law_value d b kn = .ok vb) :
    m_law_value (d + 1) (.two w a b) kn = (if w = ("times" : Str) then (chk (CMulW va vb) >>= fun _ => .ok (va * vb)) else if w ∈ ([("plus" : Str), "less"] : List Str) then (opt (atI [(1 : Int), -1] (if (decide (w = ("less" : Str))) = true then (1 : Int) else 0)) >>= fun y => chk (CMulW y vb) >>= fun _ => .ok (va + y * vb)) else (opt (atI (sortT [va, vb]) (if (decide (w = ("most" : Str))) = true then (1 : Int) else 0)) >>= fun y => .ok y)) := by
  have h1 : ¬ w = ("number" : Str) ∧ ¬ w ∈ ([("own" : Str), "tie"] : List Str) ∧ ¬ w ∈ ([("so" : Str), "more"] : List Str) := by
    rcases hw with e | e | e | e | e <;> subst e <;> decide +kernel
  unfold m_law_value
  rw [if_neg (show ¬ Sm.word (.two w a b) = _ from h1.1), if_neg (show ¬ Sm.word (.two w a b) ∈ ([("own" : Str), "tie"] : List Str) from h1.2.1), if_neg (show ¬ Sm.word (.two w a b) ∈ ([("so" : Str), "more"] : List Str) from h1.2.2)]
  rw [opt_b (show Sm.two? (.two w a b) = some (a, b) from rfl)]
  rw [bind_ok (comp2 (va := va) (vb := vb) (by show (m_law_value d a kn >>= _) = _; rw [bind_ok ha]) (by show (m_law_value d b kn >>= _) = _; rw [bind_ok hb]))]
  rfl
theorem eval_ok (ho : own.natAbs < 2 ^ 100) (ht : tie.natAbs < 2 ^ 100) (hs : so.length = 3) (hm : more.length = 3) (hs2 : ∀ y ∈ so, y.natAbs < 2 ^ 100) (hm2 : ∀ y ∈ more, y.natAbs < 2 ^ 100) : ∀ (d : Nat) (x : Sm), d ≤ 12 → Good d x →
    ∃ v, m_sum_at d x own tie so more = .ok v ∧ m_law_value d x (knownOf own tie so more) = .ok v ∧ v.natAbs < 2 ^ (100 * 2 ^ d)
  | 0, _, _, h => h.elim
  | d + 1, x, hd, h => by
    rcases h with h | ⟨w, a, b, e, hw, ga, gb⟩
    · obtain ⟨v, e1, e2, e3⟩ := leaf_eval (d := d) h ho ht hs hm hs2 hm2
      exact ⟨v, e1, e2, Nat.lt_of_lt_of_le e3 (bnd0 (d + 1))⟩
    · subst e
      obtain ⟨va, a1, a2, a3⟩ := eval_ok ho ht hs hm hs2 hm2 d a (by omega) ga
      obtain ⟨vb, b1, b2, b3⟩ := eval_ok ho ht hs hm hs2 hm2 d b (by omega) gb
      have hX := two_le d
      have hb1 := bnd1 (d := d) (by omega)
      have hpos : 0 < 100 * 2 ^ d := by have := Nat.one_le_two_pow (n := d); omega
      have cm : CMulW va vb := wide_mul a3 b3 hpos hpos (by omega)
      have c1 : CMulW 1 vb := wide_mul (i := 1) (a := 1) (by decide) b3 (by decide) hpos (by omega)
      have c2 : CMulW (-1) vb := wide_mul (i := -1) (a := 1) (by decide) b3 (by decide) hpos (by omega)
      rw [op_sum hw a1 b1, op_val hw a2 b2, bnd]
      rcases hw with e | e | e | e | e
      · subst e
        refine ⟨va + vb, by rw [if_pos rfl], ?_, ?_⟩
        · rw [if_neg (by decide +kernel), if_pos (by decide +kernel)]
          rw [show (if (decide (("plus" : Str) = ("less" : Str))) = true then (1 : Int) else 0) = 0 from if_neg (by decide +kernel)]
          rw [opt_b (show L2.atI [(1 : Int), -1] 0 = some 1 from rfl), chk_b c1, Int.one_mul]
        · exact Nat.lt_of_le_of_lt (Int.natAbs_add_le va vb) (add_bnd hX a3 b3)
      · subst e
        refine ⟨va - vb, by rw [if_neg (by decide +kernel), if_pos rfl], ?_, ?_⟩
        · rw [if_neg (by decide +kernel), if_pos (by decide +kernel)]
          rw [show (if (decide (("less" : Str) = ("less" : Str))) = true then (1 : Int) else 0) = 1 from if_pos (by decide +kernel)]
          rw [opt_b (show L2.atI [(1 : Int), -1] 1 = some (-1) from rfl), chk_b c2]
          exact congrArg Except.ok (by omega)
        · have : (va - vb).natAbs ≤ va.natAbs + vb.natAbs := by omega
          exact Nat.lt_of_le_of_lt this (add_bnd hX a3 b3)
      · subst e
        refine ⟨va * vb, by rw [if_neg (by decide +kernel), if_neg (by decide +kernel), if_pos rfl, chk_b cm], by rw [if_pos rfl, chk_b cm], ?_⟩
        rw [Int.natAbs_mul]
        exact Nat.mul_lt_mul'' a3 b3
      · subst e
        refine ⟨if vb > va then vb else va, by rw [if_neg (by decide +kernel), if_neg (by decide +kernel), if_neg (by decide +kernel), if_pos rfl], ?_, ?_⟩
        · rw [if_neg (by decide +kernel), if_neg (by decide +kernel)]
          rw [show (if (decide (("most" : Str) = ("most" : Str))) = true then (1 : Int) else 0) = 1 from if_pos (by decide +kernel), sort2]
          by_cases hle : va ≤ vb
          · rw [if_pos hle]
            show Except.ok vb = _
            split
            · rfl
            · exact congrArg Except.ok (by omega)
          · rw [if_neg hle, if_neg (by omega)]
            rfl
        · split
          · exact one_bnd hX b3
          · exact one_bnd hX a3
      · subst e
        refine ⟨if vb < va then vb else va, by rw [if_neg (by decide +kernel), if_neg (by decide +kernel), if_neg (by decide +kernel), if_neg (by decide +kernel)], ?_, ?_⟩
        · rw [if_neg (by decide +kernel), if_neg (by decide +kernel)]
          rw [show (if (decide (("least" : Str) = ("most" : Str))) = true then (1 : Int) else 0) = 0 from if_neg (by decide +kernel), sort2]
          by_cases hle : va ≤ vb
          · rw [if_pos hle, if_neg (by omega)]
            rfl
          · rw [if_neg hle, if_pos (by omega)]
            rfl
        · split
          · exact one_bnd hX b3
          · exact one_bnd hX a3
end
theorem leaf_ok (d : Int) : ∃ x d', m_law_leaf [d] [("own" : Str), "tie", "so", "more"] 3 = .ok (x, [d']) ∧ Leaf x := by
  obtain ⟨w, d1, e1, w0, w5⟩ := take_small d 5 (by decide) (by decide)
  unfold m_law_leaf
  show ∃ x d', (m_law_take [d] 5 >>= _) = _ ∧ _
  rw [bind_ok e1]
  show ∃ x d', (if w = 0 then _ else _) = _ ∧ _
  by_cases hw : w = 0
  · rw [if_pos hw]
    obtain ⟨n, d2, e2, n0, n1⟩ := take_small d1 19 (by decide) (by decide)
    show ∃ x d', (m_law_take [d1] 19 >>= _) = _ ∧ _
    rw [bind_ok e2]
    exact ⟨_, d2, rfl, .inl ⟨n - 9, rfl, by omega⟩⟩
  · rw [if_neg hw]
    have hw2 : w = 1 ∨ w = 2 ∨ w = 3 ∨ w = 4 := by omega
    rcases hw2 with e | e | e | e
    · subst e
      rw [opt_b (show L2.atI [("own" : Str), "tie", "so", "more"] (1 - 1) = some "own" from rfl), if_neg (by decide +kernel), opt_b (show L2.atI [("own" : Str), "tie", "so", "more"] (1 - 1) = some "own" from rfl)]
      exact ⟨_, d1, rfl, .inr (.inl rfl)⟩
    · subst e
      rw [opt_b (show L2.atI [("own" : Str), "tie", "so", "more"] (2 - 1) = some "tie" from rfl), if_neg (by decide +kernel), opt_b (show L2.atI [("own" : Str), "tie", "so", "more"] (2 - 1) = some "tie" from rfl)]
      exact ⟨_, d1, rfl, .inr (.inr (.inl rfl))⟩
    · subst e
      obtain ⟨k, d2, e2, k0, k3⟩ := take_small d1 3 (by decide) (by decide)
      rw [opt_b (show L2.atI [("own" : Str), "tie", "so", "more"] (3 - 1) = some "so" from rfl), if_pos (by decide +kernel), opt_b (show L2.atI [("own" : Str), "tie", "so", "more"] (3 - 1) = some "so" from rfl)]
      show ∃ x d', (m_law_take [d1] 3 >>= _) = _ ∧ _
      rw [bind_ok e2]
      exact ⟨_, d2, rfl, .inr (.inr (.inr (.inl ⟨k, rfl, k0, k3⟩)))⟩
    · subst e
      obtain ⟨k, d2, e2, k0, k3⟩ := take_small d1 3 (by decide) (by decide)
      rw [opt_b (show L2.atI [("own" : Str), "tie", "so", "more"] (4 - 1) = some "more" from rfl), if_pos (by decide +kernel), opt_b (show L2.atI [("own" : Str), "tie", "so", "more"] (4 - 1) = some "more" from rfl)]
      show ∃ x d', (m_law_take [d1] 3 >>= _) = _ ∧ _
      rw [bind_ok e2]
      exact ⟨_, d2, rfl, .inr (.inr (.inr (.inr ⟨k, rfl, k0, k3⟩)))⟩
theorem words_at {ws : List Str} (h : ∀ w ∈ ws, OpW w) {k : Int} (k0 : 0 ≤ k) (k1 : k < ws.length) : ∃ w, L2.atI ws k = some w ∧ OpW w := by
  obtain ⟨w, e1, e2⟩ := atI_some k0 k1
  exact ⟨w, e1, h w (List.mem_of_getElem? e2)⟩
theorem ops6 : ∀ w ∈ [("plus" : Str), "less", "times", "most", "least", "least"], OpW w := by
  intro w hw
  unfold OpW
  simp only [List.mem_cons, List.not_mem_nil, or_false] at hw
  rcases hw with e | e | e | e | e | e <;> simp [e]
theorem ops5 : ∀ w ∈ [("plus" : Str), "less", "times", "most", "least"], OpW w := by
  intro w hw
  unfold OpW
  simp only [List.mem_cons, List.not_mem_nil, or_false] at hw
  rcases hw with e | e | e | e | e <;> simp [e]
theorem any_ok : ∀ (p n : Nat) (d : Int), p < n → ∃ x d', m_law_any_sum n [d] (p : Int) = .ok (x, [d']) ∧ Good (p + 1) x
  | _, 0, _, h => absurd h (Nat.not_lt_zero _)
  | 0, n + 1, d, _ => by
    obtain ⟨w, d1, e1, w0, w9⟩ := take_small d 9 (by decide) (by decide)
    obtain ⟨x, d2, e2, hx⟩ := leaf_ok d1
    unfold m_law_any_sum
    rw [bind_ok e1, if_pos (show ((0 : Nat) : Int) = 0 from rfl)]
    show ∃ x d', (m_law_leaf [d1] _ 3 >>= _) = _ ∧ _
    rw [bind_ok e2]
    exact ⟨x, d2, rfl, .inl hx⟩
  | p + 1, n + 1, d, h => by
    obtain ⟨w, d1, e1, w0, w9⟩ := take_small d 9 (by decide) (by decide)
    unfold m_law_any_sum
    rw [bind_ok e1, if_neg (by omega)]
    show ∃ x d', (if w < 3 then _ else _) = _ ∧ _
    by_cases hw : w < 3
    · rw [if_pos hw]
      obtain ⟨x, d2, e2, hx⟩ := leaf_ok d1
      show ∃ x d', (m_law_leaf [d1] _ 3 >>= _) = _ ∧ _
      rw [bind_ok e2]
      exact ⟨x, d2, rfl, .inl hx⟩
    · rw [if_neg hw]
      rw [show (((p + 1 : Nat) : Int) - 1) = (p : Int) by omega]
      obtain ⟨a, d2, e2, ha⟩ := any_ok p n d1 (by omega)
      obtain ⟨o, e3, ho⟩ := words_at ops6 (k := w - 3) (by omega) (by show w - 3 < ((6 : Nat) : Int); omega)
      obtain ⟨b, d3, e4, hb⟩ := any_ok p n d2 (by omega)
      show ∃ x d', (m_law_any_sum n [d1] (p : Int) >>= _) = _ ∧ _
      rw [bind_ok e2]
      show ∃ x d', (opt (atI [("plus" : Str), "less", "times", "most", "least", "least"] (w - 3)) >>= _) = _ ∧ _
      rw [opt_b e3]
      show ∃ x d', (m_law_any_sum n [d2] (p : Int) >>= _) = _ ∧ _
      rw [bind_ok e4]
      exact ⟨_, d3, rfl, .inr ⟨o, a, b, rfl, ho, ha, hb⟩⟩
theorem chain_ok (d : Int) : ∃ x d', m_law_chain [d] = .ok (x, [d']) ∧ Good 10 x := by
  obtain ⟨x0, d0, e0, h0⟩ := leaf_ok d
  unfold m_law_chain
  rw [bind_ok e0, chk_b (show okR 9 by decide)]
  obtain ⟨⟨x, dk⟩, e, ⟨d', hd⟩, hg⟩ := loopN_run (f := fun (y20 : Int) (st32 : Sm × (List Int)) =>
    m_law_take st32.2 (5 : Int) >>= fun r50 =>
    opt (atI ([("plus" : Str), ("less" : Str), ("times" : Str), ("most" : Str), ("least" : Str)]) r50.1) >>= fun y64 =>
    m_law_leaf r50.2 ([("own" : Str), ("tie" : Str), ("so" : Str), ("more" : Str)]) (3 : Int) >>= fun r77 =>
    m_law_take r77.2 (2 : Int) >>= fun r110 =>
    opt (atI ([(T3.mk y64 st32.1 r77.1), (T3.mk y64 r77.1 st32.1)]) r110.1) >>= fun y124 =>
    (.ok ((Sm.two y124.a y124.b y124.c), r110.2) : M _)) (all := rangeL (0 : Int) 9) (x := (x0, [d0])) (fun pre st => (∃ d', st.2 = [d']) ∧ Good (pre.length + 1) st.1) ⟨⟨d0, rfl⟩, .inl h0⟩
    (fun pre y post ⟨x, dk⟩ _ ⟨⟨d1, hd⟩, hg⟩ => by
      have hd : dk = [d1] := hd
      subst hd
      have hg : Good (pre.length + 1) x := hg
      obtain ⟨w, d2, e1, w0, w5⟩ := take_small d1 5 (by decide) (by decide)
      obtain ⟨o, e2, ho⟩ := words_at ops5 (k := w) w0 (by show w < ((5 : Nat) : Int); omega)
      obtain ⟨l, d3, e3, hl⟩ := leaf_ok d2
      obtain ⟨j, d4, e4, j0, j2⟩ := take_small d3 2 (by decide) (by decide)
      have hl' : Good (pre.length + 1) l := .inl hl
      show ∃ x', (m_law_take [d1] 5 >>= _) = _ ∧ _
      rw [bind_ok e1]
      show ∃ x', (opt (atI [("plus" : Str), "less", "times", "most", "least"] w) >>= _) = _ ∧ _
      rw [opt_b e2]
      show ∃ x', (m_law_leaf [d2] _ 3 >>= _) = _ ∧ _
      rw [bind_ok e3]
      show ∃ x', (m_law_take [d3] 2 >>= _) = _ ∧ _
      rw [bind_ok e4]
      have hj : j = 0 ∨ j = 1 := by omega
      rw [List.length_append, List.length_singleton]
      rcases hj with e | e
      · subst e
        exact ⟨(.two o x l, [d4]), rfl, ⟨d4, rfl⟩, .inr ⟨o, x, l, rfl, ho, hg, hl'⟩⟩
      · subst e
        exact ⟨(.two o l x, [d4]), rfl, ⟨d4, rfl⟩, .inr ⟨o, l, x, rfl, ho, hl', hg⟩⟩)
  have hd : dk = [d'] := hd
  subst hd
  rw [rangeL_length] at hg
  show ∃ x d', (loopN _ (rangeL 0 9) (x0, [d0]) >>= _) = _ ∧ _
  rw [bind_ok e]
  exact ⟨x, d', rfl, hg⟩
theorem law_true (ns : List Int) (h : ns.length ≤ 63) : m_law ns = .ok true := by
  unfold m_law
  have hc := cut10 ns 15
  have hc : (cutL ns none (some (15 : Int))).length ≤ ns.length := hc
  rw [chk_b (show ([((10 : Int) ^ Int.toNat (18 : Int))]).length + (cutL ns none (some (15 : Int))).length < 16777216 by simp only [List.length_singleton]; omega)]
  rw [bind_ok (loopM_all fun c _ => ?_)]
  obtain ⟨d, e1⟩ := deck_ok c
  rw [bind_ok e1]
  obtain ⟨k, d1, e2, k0, k3⟩ := take_small d 3 (by decide) (by decide)
  rw [bind_ok e2]
  obtain ⟨far, e3, e3'⟩ := atI_some (xs := [(4 : Int), 1000, farB]) (j := k) k0 (by simpa using k3)
  have hfar : 0 ≤ far ∧ far ≤ farB := by
    have hm := List.mem_of_getElem? e3'
    simp only [List.mem_cons, List.not_mem_nil, or_false] at hm
    unfold farB at *
    omega
  show (opt (atI [(4 : Int), 1000, (10 : Int) ^ Int.toNat 29] k) >>= _) = _
  rw [show (10 : Int) ^ Int.toNat 29 = farB by decide, opt_b e3]
  rw [chk_b (show okR 4 by decide)]
  obtain ⟨ss, dk, e4, ⟨d2, hd2⟩, hss, hsl⟩ := compS_run (f := fun (y107 : Int) (st125 : (List Int)) =>
    m_law_any_sum 6 st125 (4 : Int) >>= fun r131 =>
    .ok (some r131.1, r131.2)) (all := rangeL 0 (4 : Int)) (by rw [rangeL_length]; decide) (fun pre acc st => (∃ d', st = [d']) ∧ (∀ x ∈ acc, Good 12 x) ∧ acc.length ≤ pre.length) (x := [d1]) ⟨⟨d1, rfl⟩, (fun _ h => nomatch h), Nat.le_refl _⟩ fun pre y post acc st _ ⟨⟨d', hd⟩, h3, h4⟩ => by
      subst hd
      obtain ⟨x, d3, e, hx⟩ := any_ok 4 6 d' (by decide)
      refine ⟨some x, [d3], by rw [bind_ok (show m_law_any_sum 6 [d'] (4 : Int) = _ from e)], ⟨d3, rfl⟩, fun z hz => ?_, ?_⟩
      · rcases List.mem_append.mp hz with hz | hz
        · exact h3 z hz
        · rw [List.mem_singleton.mp hz]; exact hx.le (by decide)
      · rw [List.length_append, List.length_append, List.length_singleton, List.length_singleton]; omega
  subst hd2
  rw [rangeL_length] at hsl
  show (compS _ (rangeL 0 4) [d1] >>= _) = _
  rw [bind_ok e4]
  obtain ⟨ch, d3, e5, hch⟩ := chain_ok d2
  show (m_law_chain [d2] >>= _) = _
  rw [bind_ok e5]
  rw [chk_b (show ss.length + [ch].length < 16777216 by
    have : ((4 : Int) - 0).toNat = 4 := by decide
    rw [this] at hsl
    rw [List.length_singleton]
    omega)]
  have hall : ∀ x ∈ ss ++ [ch], Good 12 x := fun x hx => by
    rcases List.mem_append.mp hx with hx | hx
    · exact hss x hx
    · rw [List.mem_singleton.mp hx]; exact hch.le (by decide)
  obtain ⟨st, e6, _⟩ := loopM_run (r := Fl Unit Bool) (f := fun (y204 : Sm) (st215 : (List Int)) =>
    chk (okR (8 : Int)) >>= fun _ =>
    compS (fun (y227 : Int) (st245 : (List Int)) =>
    chk (CMulW (2 : Int) far) >>= fun _ =>
    m_law_take st245 (((2 : Int) * far) + (1 : Int)) >>= fun r252 =>
    .ok (some (r252.1 - far), r252.2)) (rangeL 0 (8 : Int)) st215 >>= fun q274 =>
    opt (atI q274.1 (0 : Int)) >>= fun y319 =>
    opt (atI q274.1 (1 : Int)) >>= fun y329 =>
    opt (atI ([(cutL q274.1 (some (2 : Int)) (some (5 : Int))), (cutL q274.1 (some (5 : Int)) none)]) (0 : Int)) >>= fun y339 =>
    opt (atI ([(cutL q274.1 (some (2 : Int)) (some (5 : Int))), (cutL q274.1 (some (5 : Int)) none)]) (1 : Int)) >>= fun y349 =>
    m_sum_at 12 y204 y319 y329 y339 y349 >>= fun r354 =>
    opt (atI q274.1 (0 : Int)) >>= fun y371 =>
    opt (atI q274.1 (1 : Int)) >>= fun y381 =>
    m_law_whole r354 >>= fun r414 =>
    if r414 = true then (
    m_law_value 12 y204 (mergeDS [(("own" : Str), (IL.i y371)), (("tie" : Str), (IL.i y381)), (("so" : Str), (IL.l (cutL q274.1 (some (2 : Int)) (some (5 : Int))))), (("more" : Str), (IL.l (cutL q274.1 (some (5 : Int)) none)))]) >>= fun r424 =>
    if r354 ≠ r424 then (
    .ok (.rt (.rt false)))
    else (
    if ([(cutL q274.1 (some (2 : Int)) (some (5 : Int))), (cutL q274.1 (some (5 : Int)) none)]) ≠ ([(cutL q274.1 (some (2 : Int)) (some (5 : Int))), (cutL q274.1 (some (5 : Int)) none)]) then (
    .ok (.rt (.rt false)))
    else (
    .ok (.nx q274.2))))
    else (
    .ok (.rt (.rt false)))) (all := ss ++ [ch]) (fun _ st => ∃ d', st = [d']) (x := [d3]) ⟨d3, rfl⟩ fun pre x post st ea ⟨d', hd⟩ => by
      subst hd
      have hx := hall x (by rw [ea]; simp)
      rw [chk_b (show okR 8 by decide)]
      have hf1 := hfar.1
      have hf2 := hfar.2
      have hfb : far.natAbs < 2 ^ 100 := by unfold farB at hf2; omega
      have cm : CMulW 2 far := wide_mul (i := 2) (a := 2) (b := 100) (by decide) hfb (by decide) (by decide) (by decide)
      obtain ⟨xs, dk, e7, ⟨d4, hd4⟩, hl, hb⟩ := compS_run (f := fun (y227 : Int) (st245 : (List Int)) =>
        chk (CMulW (2 : Int) far) >>= fun _ =>
        m_law_take st245 (((2 : Int) * far) + (1 : Int)) >>= fun r252 =>
        .ok (some (r252.1 - far), r252.2)) (all := rangeL 0 (8 : Int)) (by rw [rangeL_length]; decide) (fun pre acc st => (∃ d', st = [d']) ∧ acc.length = pre.length ∧ ∀ x ∈ acc, x.natAbs < 2 ^ 100) (x := [d']) ⟨⟨d', rfl⟩, rfl, fun _ h => nomatch h⟩ fun pre y post acc st _ ⟨⟨d5, hd⟩, h3, h4⟩ => by
          subst hd
          rw [chk_b cm]
          have hm : 0 < 2 * far + 1 := by omega
          rw [bind_ok (take_ok d5 (2 * far + 1) hm (by unfold farB at hf2; omega))]
          have b0 := Int.emod_nonneg d5 (b := 2 * far + 1) (by omega)
          have b1 := Int.emod_lt_of_pos d5 hm
          refine ⟨some (d5 % (2 * far + 1) - far), [d5 / (2 * far + 1)], rfl, ⟨_, rfl⟩, by rw [List.length_append, List.length_append, h3, List.length_singleton, List.length_singleton], fun z hz => ?_⟩
          rcases List.mem_append.mp hz with hz | hz
          · exact h4 z hz
          · rw [List.mem_singleton.mp hz]
            have : (d5 % (2 * far + 1) - far).natAbs ≤ far.natAbs := by omega
            unfold farB at hf2
            omega
      subst hd4
      rw [rangeL_length] at hl
      rw [bind_ok e7]
      have hl8 : xs.length = 8 := hl
      match xs, hl8, hb with
      | [a0, a1, a2, a3, a4, a5, a6, a7], _, hb =>
        have q0 : L2.atI [a0, a1, a2, a3, a4, a5, a6, a7] (0 : Int) = some a0 := rfl
        have q1 : L2.atI [a0, a1, a2, a3, a4, a5, a6, a7] (1 : Int) = some a1 := rfl
        have c1 : cutL [a0, a1, a2, a3, a4, a5, a6, a7] (some (2 : Int)) (some (5 : Int)) = [a2, a3, a4] := rfl
        have c2 : cutL [a0, a1, a2, a3, a4, a5, a6, a7] (some (5 : Int)) none = [a5, a6, a7] := rfl
        obtain ⟨v, v1, v2, _⟩ := eval_ok (own := a0) (tie := a1) (so := [a2, a3, a4]) (more := [a5, a6, a7]) (hb a0 (by simp)) (hb a1 (by simp)) rfl rfl (fun y hy => hb y (by simp only [List.mem_cons, List.not_mem_nil, or_false] at hy ⊢; omega)) (fun y hy => hb y (by simp only [List.mem_cons, List.not_mem_nil, or_false] at hy ⊢; omega)) 12 x (Nat.le_refl _) hx
        refine ⟨[d4], ?_, d4, rfl⟩
        rw [opt_b q0, opt_b q1]
        rw [c1, c2]
        rw [opt_b (show L2.atI [[a2, a3, a4], [a5, a6, a7]] (0 : Int) = some [a2, a3, a4] from rfl), opt_b (show L2.atI [[a2, a3, a4], [a5, a6, a7]] (1 : Int) = some [a5, a6, a7] from rfl)]
        rw [bind_ok v1, opt_b q0, opt_b q1, bind_ok (show m_law_whole v = .ok true from rfl), if_pos rfl, known_merge, bind_ok v2]
        rw [if_neg (fun z => z rfl), if_neg (fun z => z rfl)]
  show (loopM _ (ss ++ [ch]) [d3] >>= _) = _
  rw [bind_ok e6]

theorem all_mk {P : Program} {w : World} {K : PySem.W.Frag} {h : Heap} {mg : Str → Option Value} {fa f1 f2 f3 f4 f5 f6 f7 f8 f9 f10 : Addr} {od1 an1 od2 an2 od3 an3 od4 an4 od5 an5 od6 an6 od7 an7 od8 an8 od9 an9 od10 an10 : Option Addr} {sl1 sl2 sl3 sl4 sl5 sl6 sl7 sl8 sl9 sl10 : Array (Option Value)} {oc1 kV1 dc1 pm1 cd1 ct1 oc2 kV2 dc2 pm2 cd2 ct2 oc3 kV3 dc3 pm3 cd3 ct3 oc4 kV4 dc4 pm4 cd4 ct4 oc5 kV5 dc5 pm5 cd5 ct5 oc6 kV6 dc6 pm6 cd6 ct6 oc7 kV7 dc7 pm7 cd7 ct7 oc8 kV8 dc8 pm8 cd8 ct8 oc9 kV9 dc9 pm9 cd9 ct9 oc10 kV10 dc10 pm10 cd10 ct10 : Value} (X : K.In h) (G : h.Ns mainGlobals mg) (hfa : mg "law" = some (.ref fa))
    (a1 : PySem.W.nsIn K mainGlobals "sum_at" = some (some (.ref f1))) (l1 : K.lookup f1 = some ⟨oc1, od1, .func (PySem.W.fnOf "sum_at" "sum_at" (defArgs s_sum_at) (defBody s_sum_at) (defScope s_sum_at) .none kV1 dc1 pm1 an1 cd1 ct1), sl1⟩) (c1 : PySem.W.codeIn K cd1 "sum_at" = true) (k1 : PySem.W.keepIn K (.ref f1) = true)
    (a2 : PySem.W.nsIn K mainGlobals "_law_stir" = some (some (.ref f2))) (l2 : K.lookup f2 = some ⟨oc2, od2, .func (PySem.W.fnOf "_law_stir" "_law_stir" (defArgs s_law_stir) (defBody s_law_stir) (defScope s_law_stir) .none kV2 dc2 pm2 an2 cd2 ct2), sl2⟩) (c2 : PySem.W.codeIn K cd2 "_law_stir" = true) (k2 : PySem.W.keepIn K (.ref f2) = true)
    (a3 : PySem.W.nsIn K mainGlobals "_law_deck" = some (some (.ref f3))) (l3 : K.lookup f3 = some ⟨oc3, od3, .func (PySem.W.fnOf "_law_deck" "_law_deck" (defArgs s_law_deck) (defBody s_law_deck) (defScope s_law_deck) .none kV3 dc3 pm3 an3 cd3 ct3), sl3⟩) (c3 : PySem.W.codeIn K cd3 "_law_deck" = true) (k3 : PySem.W.keepIn K (.ref f3) = true)
    (a4 : PySem.W.nsIn K mainGlobals "_law_take" = some (some (.ref f4))) (l4 : K.lookup f4 = some ⟨oc4, od4, .func (PySem.W.fnOf "_law_take" "_law_take" (defArgs s_law_take) (defBody s_law_take) (defScope s_law_take) .none kV4 dc4 pm4 an4 cd4 ct4), sl4⟩) (c4 : PySem.W.codeIn K cd4 "_law_take" = true) (k4 : PySem.W.keepIn K (.ref f4) = true)
    (a5 : PySem.W.nsIn K mainGlobals "_law_whole" = some (some (.ref f5))) (l5 : K.lookup f5 = some ⟨oc5, od5, .func (PySem.W.fnOf "_law_whole" "_law_whole" (defArgs s_law_whole) (defBody s_law_whole) (defScope s_law_whole) .none kV5 dc5 pm5 an5 cd5 ct5), sl5⟩) (c5 : PySem.W.codeIn K cd5 "_law_whole" = true) (k5 : PySem.W.keepIn K (.ref f5) = true)
    (a6 : PySem.W.nsIn K mainGlobals "_law_leaf" = some (some (.ref f6))) (l6 : K.lookup f6 = some ⟨oc6, od6, .func (PySem.W.fnOf "_law_leaf" "_law_leaf" (defArgs s_law_leaf) (defBody s_law_leaf) (defScope s_law_leaf) .none kV6 dc6 pm6 an6 cd6 ct6), sl6⟩) (c6 : PySem.W.codeIn K cd6 "_law_leaf" = true) (k6 : PySem.W.keepIn K (.ref f6) = true)
    (a7 : PySem.W.nsIn K mainGlobals "_law_value" = some (some (.ref f7))) (l7 : K.lookup f7 = some ⟨oc7, od7, .func (PySem.W.fnOf "_law_value" "_law_value" (defArgs s_law_value) (defBody s_law_value) (defScope s_law_value) .none kV7 dc7 pm7 an7 cd7 ct7), sl7⟩) (c7 : PySem.W.codeIn K cd7 "_law_value" = true) (k7 : PySem.W.keepIn K (.ref f7) = true)
    (a8 : PySem.W.nsIn K mainGlobals "_law_any_sum" = some (some (.ref f8))) (l8 : K.lookup f8 = some ⟨oc8, od8, .func (PySem.W.fnOf "_law_any_sum" "_law_any_sum" (defArgs s_law_any_sum) (defBody s_law_any_sum) (defScope s_law_any_sum) .none kV8 dc8 pm8 an8 cd8 ct8), sl8⟩) (c8 : PySem.W.codeIn K cd8 "_law_any_sum" = true) (k8 : PySem.W.keepIn K (.ref f8) = true)
    (a9 : PySem.W.nsIn K mainGlobals "_law_chain" = some (some (.ref f9))) (l9 : K.lookup f9 = some ⟨oc9, od9, .func (PySem.W.fnOf "_law_chain" "_law_chain" (defArgs s_law_chain) (defBody s_law_chain) (defScope s_law_chain) .none kV9 dc9 pm9 an9 cd9 ct9), sl9⟩) (c9 : PySem.W.codeIn K cd9 "_law_chain" = true) (k9 : PySem.W.keepIn K (.ref f9) = true)
    (a10 : PySem.W.nsIn K mainGlobals "law" = some (some (.ref f10))) (l10 : K.lookup f10 = some ⟨oc10, od10, .func (PySem.W.fnOf "law" "law" (defArgs s_law) (defBody s_law) (defScope s_law) .none kV10 dc10 pm10 an10 cd10 ct10), sl10⟩) (c10 : PySem.W.codeIn K cd10 "law" = true) (k10 : PySem.W.keepIn K (.ref f10) = true)
    (z_bool : PySem.W.nsIn K mainGlobals "bool" = some none)
    (z_int : PySem.W.nsIn K mainGlobals "int" = some none)
    (z_isinstance : PySem.W.nsIn K mainGlobals "isinstance" = some none)
    (z_len : PySem.W.nsIn K mainGlobals "len" = some none)
    (z_max : PySem.W.nsIn K mainGlobals "max" = some none)
    (z_min : PySem.W.nsIn K mainGlobals "min" = some none)
    (z_range : PySem.W.nsIn K mainGlobals "range" = some none)
    (z_sorted : PySem.W.nsIn K mainGlobals "sorted" = some none) :
    ∃ fd : FuncData, (∀ (s : Shared) (v : Value), BindsTo s fd ⟨[v], []⟩ [("script", v)]) ∧ ∀ base : Heap, K.In base → base.Ns mainGlobals mg → FnOk P w K mg base (L2.CX P w) 14 fa fd ["script"] (sp_law K) := by
  have e := hfa.symm.trans (PySem.W.mg_of X G a10)
  cases e
  have nb : Nb mg := ⟨PySem.W.mg_none_of X G z_bool, PySem.W.mg_none_of X G z_int, PySem.W.mg_none_of X G z_isinstance, PySem.W.mg_none_of X G z_len, PySem.W.mg_none_of X G z_max, PySem.W.mg_none_of X G z_min, PySem.W.mg_none_of X G z_range, PySem.W.mg_none_of X G z_sorted⟩
  have F1 := fun_mk (x := "sum_at") (st := s_sum_at) l1 c1 k1
  have D_sum_at : Df K mg "sum_at" "sum_at" s_sum_at ["sum_told", "own", "tie", "so", "more"] := ⟨_, _, F1, PySem.W.mg_of X G a1, F1.binds (ps := ["sum_told", "own", "tie", "so", "more"]) fun _ _ _ _ _ _ us hl => match us, hl with | [_, _, _, _, _], _ => rfl⟩
  have F2 := fun_mk (x := "_law_stir") (st := s_law_stir) l2 c2 k2
  have D_law_stir : Df K mg "_law_stir" "_law_stir" s_law_stir ["cell", "k"] := ⟨_, _, F2, PySem.W.mg_of X G a2, F2.binds (ps := ["cell", "k"]) fun _ _ _ _ _ _ us hl => match us, hl with | [_, _], _ => rfl⟩
  have F3 := fun_mk (x := "_law_deck") (st := s_law_deck) l3 c3 k3
  have D_law_deck : Df K mg "_law_deck" "_law_deck" s_law_deck ["cell"] := ⟨_, _, F3, PySem.W.mg_of X G a3, F3.binds (ps := ["cell"]) fun _ _ _ _ _ _ us hl => match us, hl with | [_], _ => rfl⟩
  have F4 := fun_mk (x := "_law_take") (st := s_law_take) l4 c4 k4
  have D_law_take : Df K mg "_law_take" "_law_take" s_law_take ["deck", "many"] := ⟨_, _, F4, PySem.W.mg_of X G a4, F4.binds (ps := ["deck", "many"]) fun _ _ _ _ _ _ us hl => match us, hl with | [_, _], _ => rfl⟩
  have F5 := fun_mk (x := "_law_whole") (st := s_law_whole) l5 c5 k5
  have D_law_whole : Df K mg "_law_whole" "_law_whole" s_law_whole ["found"] := ⟨_, _, F5, PySem.W.mg_of X G a5, F5.binds (ps := ["found"]) fun _ _ _ _ _ _ us hl => match us, hl with | [_], _ => rfl⟩
  have F6 := fun_mk (x := "_law_leaf") (st := s_law_leaf) l6 c6 k6
  have D_law_leaf : Df K mg "_law_leaf" "_law_leaf" s_law_leaf ["deck", "leaves", "many"] := ⟨_, _, F6, PySem.W.mg_of X G a6, F6.binds (ps := ["deck", "leaves", "many"]) fun _ _ _ _ _ _ us hl => match us, hl with | [_, _, _], _ => rfl⟩
  have F7 := fun_mk (x := "_law_value") (st := s_law_value) l7 c7 k7
  have D_law_value : Df K mg "_law_value" "_law_value" s_law_value ["told", "known"] := ⟨_, _, F7, PySem.W.mg_of X G a7, F7.binds (ps := ["told", "known"]) fun _ _ _ _ _ _ us hl => match us, hl with | [_, _], _ => rfl⟩
  have F8 := fun_mk (x := "_law_any_sum") (st := s_law_any_sum) l8 c8 k8
  have D_law_any_sum : Df K mg "_law_any_sum" "_law_any_sum" s_law_any_sum ["deck", "deep"] := ⟨_, _, F8, PySem.W.mg_of X G a8, F8.binds (ps := ["deck", "deep"]) fun _ _ _ _ _ _ us hl => match us, hl with | [_, _], _ => rfl⟩
  have F9 := fun_mk (x := "_law_chain") (st := s_law_chain) l9 c9 k9
  have D_law_chain : Df K mg "_law_chain" "_law_chain" s_law_chain ["deck"] := ⟨_, _, F9, PySem.W.mg_of X G a9, F9.binds (ps := ["deck"]) fun _ _ _ _ _ _ us hl => match us, hl with | [_], _ => rfl⟩
  have F10 := fun_mk (x := "law") (st := s_law) l10 c10 k10
  refine ⟨PySem.W.fnOf "law" "law" (defArgs s_law) (defBody s_law) (defScope s_law) .none kV10 dc10 pm10 an10 cd10 ct10, fun s v => .of_eq rfl, fun base _ _ => ?_⟩
  have C_sum_at : Ca P w K mg base "sum_at" 13 ["sum_told", "own", "tie", "so", "more"] (sp_sum_at 12 mg) := ok_sum_at nb  D_sum_at 12
  have C_law_stir : Ca P w K mg base "_law_stir" 1 ["cell", "k"] (sp_law_stir mg) := ok_law_stir nb  D_law_stir
  have C_law_deck : Ca P w K mg base "_law_deck" 2 ["cell"] (sp_law_deck mg) := ok_law_deck nb C_law_stir  D_law_deck
  have C_law_take : Ca P w K mg base "_law_take" 1 ["deck", "many"] (sp_law_take mg) := ok_law_take nb  D_law_take
  have C_law_whole : Ca P w K mg base "_law_whole" 1 ["found"] (sp_law_whole mg) := ok_law_whole nb  D_law_whole
  have C_law_leaf : Ca P w K mg base "_law_leaf" 2 ["deck", "leaves", "many"] (sp_law_leaf mg) := ok_law_leaf nb C_law_take  D_law_leaf
  have C_law_value : Ca P w K mg base "_law_value" 13 ["told", "known"] (sp_law_value 12 mg) := ok_law_value nb  D_law_value 12
  have C_law_any_sum : Ca P w K mg base "_law_any_sum" 9 ["deck", "deep"] (sp_law_any_sum 6 mg) := ok_law_any_sum nb C_law_leaf C_law_take  D_law_any_sum 6
  have C_law_chain : Ca P w K mg base "_law_chain" 3 ["deck"] (sp_law_chain mg) := ok_law_chain nb C_law_leaf C_law_take  D_law_chain
  exact ok_law nb C_law_any_sum C_law_chain C_law_deck C_law_take C_law_value C_law_whole C_sum_at F10
theorem walk {l : PySem.W.OpenLaw} {q : Program} {loose : List Str} {XP : (Str → Option Value) → Heap → Prop} {YP : World → Heap → Prop} {d : DefRec} {K : Params → PySem.W.Frag} (hn : l.most = some 63) (hdf : d.params.defaults = [])
    (hY : ∀ (w : World) (h : Heap), YP w h → (K w.params).In h)
    (F : ∀ (w : World) (mg : Str → Option Value) (fa : Addr) (h : Heap), (K w.params).In h → h.Ns mainGlobals mg → mg d.name = some (.ref fa) →
      ∃ fd : FuncData, (∀ (s : Shared) (u : Value), BindsTo s fd ⟨[u], []⟩ [("script", u)]) ∧ ∀ base : Heap, (K w.params).In base → base.Ns mainGlobals mg → FnOk l.prog w (K w.params) mg base (L2.CX l.prog w) 14 fa fd ["script"] (sp_law (K w.params))) :
    PySem.W.WalkO q loose XP YP l.row.toRowW d [] (fun f vs => PySem.call f vs) :=
  L2.walk_of (n := 63) (k := 14) (x := "script") (CX := fun w => L2.CX l.prog w) (sp := fun w => sp_law (K w.params)) hn (by decide) hdf ⟨rfl, by decide, by decide⟩ hY F
    (fun _ H a ns hl _ hS => ⟨H, a, ns, rfl, ⟨Same.refl _, (fun _ h => nomatch h), (fun _ h => nomatch h), List.nodup_nil, (fun _ h => nomatch h)⟩, hS, by rw [law_true ns hl]; exact fun _ _ _ => rfl⟩)
    fun _ _ _ _ _ z => by
      obtain ⟨_, _, _, _, _, _, _, _, _, _, _, _, z⟩ := z
      exact z.elim
end G
open PySem PySem.W PyProof.Rows
set_option maxRecDepth 100000 in
set_option maxHeartbeats 0 in
theorem PySem.Challenge.cw_everyseat_k10_sums_at_holds : PySem.Challenge.rw_everyseat_k10_sums_at.Holds := by
  w_on; o_law; k_head; (case hw => w_witness2)
  k_fill
  refine G.walk (l := PySem.Challenge.rw_everyseat_k10_sums_at) rfl rfl (fun w h Y => PySem.W.kIn_of Y) ?F
  case F =>
    intro w mg fa h KX GG hmg
    refine' G.all_mk KX GG hmg ?a1 ?l1 ?c1 ?k1 ?a2 ?l2 ?c2 ?k2 ?a3 ?l3 ?c3 ?k3 ?a4 ?l4 ?c4 ?k4 ?a5 ?l5 ?c5 ?k5 ?a6 ?l6 ?c6 ?k6 ?a7 ?l7 ?c7 ?k7 ?a8 ?l8 ?c8 ?k8 ?a9 ?l9 ?c9 ?k9 ?a10 ?l10 ?c10 ?k10 ?z_bool ?z_int ?z_isinstance ?z_len ?z_max ?z_min ?z_range ?z_sorted
    (case a1 => k_is)
    (case l1 => k_is)
    (case c1 => k_is)
    (case k1 => k_is)
    (case a2 => k_is)
    (case l2 => k_is)
    (case c2 => k_is)
    (case k2 => k_is)
    (case a3 => k_is)
    (case l3 => k_is)
    (case c3 => k_is)
    (case k3 => k_is)
    (case a4 => k_is)
    (case l4 => k_is)
    (case c4 => k_is)
    (case k4 => k_is)
    (case a5 => k_is)
    (case l5 => k_is)
    (case c5 => k_is)
    (case k5 => k_is)
    (case a6 => k_is)
    (case l6 => k_is)
    (case c6 => k_is)
    (case k6 => k_is)
    (case a7 => k_is)
    (case l7 => k_is)
    (case c7 => k_is)
    (case k7 => k_is)
    (case a8 => k_is)
    (case l8 => k_is)
    (case c8 => k_is)
    (case k8 => k_is)
    (case a9 => k_is)
    (case l9 => k_is)
    (case c9 => k_is)
    (case k9 => k_is)
    (case a10 => k_is)
    (case l10 => k_is)
    (case c10 => k_is)
    (case k10 => k_is)
    (case z_bool => k_is)
    (case z_int => k_is)
    (case z_isinstance => k_is)
    (case z_len => k_is)
    (case z_max => k_is)
    (case z_min => k_is)
    (case z_range => k_is)
    (case z_sorted => k_is)
#print axioms PySem.Challenge.cw_everyseat_k10_sums_at_holds
