import PyProof.Rows.All
import Wide.All
import OpenK.AllK
import Wide.FinOn
import HandS.ForMost
import HandS.ForExc
import HandS.Wide
import HandS.Flow
import HandS.Evl
import HandS.Conv
import HandS.IsInst
import KE.SortData
import KE.DatumMoreOrd
import KE.DatumIndex
import HandS.Walk
import HandS.TupSets
import HandS.TryOnly
import HandS.Codes
import HandS.Dict
import HandS.TupLe
import HandS.List
import KE.KDictPairs
import HandS.Exc
import HandS.ExcIs
import HandS.ExcValue
import PyProof.Rows.CountFlat
import PySem.Challenge.RW_everyseat_k20_whole_worths_moved
set_option Elab.async false
set_option linter.all false
set_option maxRecDepth 100000
set_option maxHeartbeats 4000000
/-! My own layer over HandS: mirrors in an error monad, represented data, owned cells. -/
namespace PG
open PySem L2

/-! ### the mirrors' monad -/
inductive Er where
  | bad
  | exc (n : String)
  deriving DecidableEq
abbrev M := Except Er
def wp {a : Type} (m : M a) (Q : a → Prop) (E : String → Prop) : Prop :=
  match m with
  | .ok x => Q x
  | .error .bad => False
  | .error (.exc n) => E n
section
variable {a b : Type} {Q : a → Prop} {R : b → Prop} {E E' : String → Prop}
theorem wp_ok {x : a} : wp (Except.ok x : M a) Q E = Q x := rfl
theorem wp_pure {x : a} : wp (pure x : M a) Q E = Q x := rfl
theorem wp_bind {m : M b} {k : b → M a} : wp (m >>= k) Q E ↔ wp m (fun x => wp (k x) Q E) E := by
  cases m with
  | ok x => exact Iff.rfl
  | error e => cases e <;> exact Iff.rfl
theorem wp_call {m : M b} {k : b → M a} {E1 : String → Prop} (h : wp (m >>= k) Q E) (hr : ∀ r, m = .ok r → wp (k r) Q E → R r) (he : ∀ n, E n → E1 n) : wp m R E1 := by
  cases m with
  | ok x => exact hr x rfl h
  | error e =>
    cases e with
    | bad => exact h
    | exc n => exact he n h
/-- the last call of a def -/
theorem wp_tail {m : M a} {E1 : String → Prop} {R : a → Prop} (h : wp m Q E) (hr : ∀ r, m = .ok r → Q r → R r) (he : ∀ n, E n → E1 n) : wp m R E1 := by
  cases m with
  | ok x => exact hr x rfl h
  | error e =>
    cases e with
    | bad => exact h
    | exc n => exact he n h
def bad : M a := .error .bad
def raise (n : String) : M a := .error (.exc n)
theorem wp_bad {P : Prop} (h : wp (bad : M a) Q E) : P := h.elim
/-- a guard -/
@[irreducible] def chk (c : Prop) [Decidable c] : M Unit := if c then .ok () else bad
theorem wp_chk {c : Prop} [Decidable c] {k : Unit → M a} (h : wp (chk c >>= k) Q E) : c ∧ wp (k ()) Q E := by
  unfold chk at h
  by_cases hc : c
  · rw [if_pos hc] at h
    exact ⟨hc, h⟩
  · rw [if_neg hc] at h
    exact h.elim
/-- something that is there -/
def opt (o : Option b) : M b := match o with
  | some x => .ok x
  | none => bad
theorem wp_opt {o : Option b} {k : b → M a} (h : wp (opt o >>= k) Q E) : ∃ x, o = some x ∧ wp (k x) Q E := by
  cases o with
  | none => exact h.elim
  | some x => exact ⟨x, rfl, h⟩
/-- no exception leaves -/
def nox (m : M a) : M a := match m with
  | .ok x => .ok x
  | .error _ => bad
theorem wp_nox {m : M b} {k : b → M a} (h : wp (nox m >>= k) Q E) : ∃ x, m = .ok x ∧ wp (k x) Q E := by
  cases m with
  | ok x => exact ⟨x, rfl, h⟩
  | error e => exact h.elim
theorem wp_of_ok {m : M b} {x : b} (e : m = .ok x) (h : R x) : wp m R E := by
  rw [e]
  exact h
theorem wp_ite {c : Prop} [Decidable c] {x y : M a} (h : wp (if c then x else y) Q E) : (c → wp x Q E) ∧ (¬ c → wp y Q E) := by
  by_cases hc : c
  · rw [if_pos hc] at h
    exact ⟨fun _ => h, fun n => (n hc).elim⟩
  · rw [if_neg hc] at h
    exact ⟨fun p => (hc p).elim, fun _ => h⟩
end

/-! ### loops -/
/-- a turn's end: on to the next, or the def's return -/
inductive Fl (s r : Type) where
  | nx (x : s)
  | rt (x : r)
section
variable {i s r a : Type}
def loopM (b : i → s → M (Fl s r)) : List i → s → M (Fl s r)
  | [], x => .ok (.nx x)
  | y :: ys, x => b y x >>= fun
    | .nx x' => loopM b ys x'
    | .rt z => .ok (.rt z)
/-- a loop without return -/
def loopN (b : i → s → M s) : List i → s → M s
  | [], x => .ok x
  | y :: ys, x => b y x >>= fun x' => loopN b ys x'
def whileM (c : s → M Bool) (b : s → M (Fl s r)) : Nat → s → M (Fl s r)
  | 0, _ => bad
  | n + 1, x => c x >>= fun t => if t = true then b x >>= fun
      | .nx x' => whileM c b n x'
      | .rt z => .ok (.rt z)
    else .ok (.nx x)
def whileN (c : s → M Bool) (b : s → M s) : Nat → s → M s
  | 0, _ => bad
  | n + 1, x => c x >>= fun t => if t = true then b x >>= fun x' => whileN c b n x' else .ok x
/-- a comprehension: f gives an element, or none where the test fails -/
def compN (b : i → s → M (Option a × s)) : List i → s → M (List a × s)
  | [], x => .ok ([], x)
  | y :: ys, x => b y x >>= fun p => compN b ys p.2 >>= fun q => .ok (match p.1 with
    | some z => z :: q.1
    | none => q.1, q.2)
/-- .. that changes nothing -/
def compM (b : i → M (Option a)) : List i → M (List a)
  | [] => .ok []
  | y :: ys => b y >>= fun p => compM b ys >>= fun q => .ok (match p with
    | some z => z :: q
    | none => q)
end

/-! ### what a value stands for -/
open PySem.W (T3 T4 Datum DatumOrd)
mutual
inductive Rep (H : Hp) : V → PyData → Prop
  | non : Rep H .non .none
  | bl (b : Bool) : Rep H (.bl b) (.bool b)
  | int (i : Int) : Rep H (.int i) (.int i)
  | str (x : Str) : Rep H (.str x) (.str x)
  | lst {a : Addr} {xs : List V} {ds : List PyData} : H a = some (.lst xs) → RepA H xs ds → Rep H (.ref a) (.list ds)
  | tup {a : Addr} {xs : List V} {ds : List PyData} : H a = some (.tup xs) → RepA H xs ds → Rep H (.ref a) (.tuple ds)
inductive RepA (H : Hp) : List V → List PyData → Prop
  | nil : RepA H [] []
  | cons {v : V} {vs : List V} {d : PyData} {ds : List PyData} : Rep H v d → RepA H vs ds → RepA H (v :: vs) (d :: ds)
end
mutual
theorem Rep.mono {H H' : Hp} (s : Same H H') : ∀ (d : PyData) (v : V), Rep H v d → Rep H' v d
  | .none, _, h => by cases h; exact .non
  | .bool _, _, h => by cases h; exact .bl _
  | .int _, _, h => by cases h; exact .int _
  | .str _, _, h => by cases h; exact .str _
  | .list ds, _, h => by
    cases h with
    | lst ha hs => exact .lst (s _ _ ha) (RepA.mono s ds _ hs)
  | .tuple ds, _, h => by
    cases h with
    | tup ha hs => exact .tup (s _ _ ha) (RepA.mono s ds _ hs)
  | .dict _, _, h => by cases h
theorem RepA.mono {H H' : Hp} (s : Same H H') : ∀ (ds : List PyData) (vs : List V), RepA H vs ds → RepA H' vs ds
  | [], _, h => by cases h; exact .nil
  | d :: ds, _, h => by
    cases h with
    | cons h1 h2 => exact .cons (Rep.mono s d _ h1) (RepA.mono s ds _ h2)
end
mutual
theorem Rep.dp {K : PySem.W.Frag} {H : Hp} : ∀ (d : PyData) (v : V), Rep H v d → Dp K H v d
  | .none, _, h => by cases h; exact .non
  | .bool _, _, h => by cases h; exact .bl _
  | .int _, _, h => by cases h; exact .int _
  | .str _, _, h => by cases h; exact .str _
  | .list ds, _, h => by
    cases h with
    | lst ha hs => exact .lst (SqL.of ha) (RepA.dp ds _ hs)
  | .tuple ds, _, h => by
    cases h with
    | tup ha hs => exact .tup (SqT.of ha) (RepA.dp ds _ hs)
  | .dict _, _, h => by cases h
theorem RepA.dp {K : PySem.W.Frag} {H : Hp} : ∀ (ds : List PyData) (vs : List V), RepA H vs ds → DpAll K H vs ds
  | [], _, h => by cases h; exact .nil
  | d :: ds, _, h => by
    cases h with
    | cons h1 h2 => exact .cons (Rep.dp d _ h1) (RepA.dp ds _ h2)
end

/-- a Lean type whose values are Python's data -/
class Py (a : Type) where
  toD : a → PyData
instance : Py Int := ⟨.int⟩
instance : Py Bool := ⟨.bool⟩
instance : Py Str := ⟨.str⟩
instance : Py Unit := ⟨fun _ => .none⟩
instance {a : Type} [Py a] : Py (List a) := ⟨fun xs => .list (xs.map Py.toD)⟩
instance {a b : Type} [Py a] [Py b] : Py (a × b) := ⟨fun p => .tuple [Py.toD p.1, Py.toD p.2]⟩
instance {a b c : Type} [Py a] [Py b] [Py c] : Py (T3 a b c) := ⟨fun p => .tuple [Py.toD p.a, Py.toD p.b, Py.toD p.c]⟩
instance {a b c d : Type} [Py a] [Py b] [Py c] [Py d] : Py (T4 a b c d) := ⟨fun p => .tuple [Py.toD p.a, Py.toD p.b, Py.toD p.c, Py.toD p.d]⟩
instance {a : Type} [Py a] : Py (Option a) := ⟨fun o => match o with
  | none => .none
  | some x => Py.toD x⟩
class IsD (a : Type) [Py a] [DecidableEq a] [Datum a] : Prop where
  eq : ∀ x : a, Py.toD x = Datum.toD x
instance : IsD Int := ⟨fun _ => rfl⟩
instance : IsD Bool := ⟨fun _ => rfl⟩
instance : IsD Str := ⟨fun _ => rfl⟩
instance : IsD Unit := ⟨fun _ => rfl⟩
section
variable {a b c d : Type} [Py a] [DecidableEq a] [Datum a] [IsD a] [Py b] [DecidableEq b] [Datum b] [IsD b] [Py c] [DecidableEq c] [Datum c] [IsD c] [Py d] [DecidableEq d] [Datum d] [IsD d]
theorem map_toD (xs : List a) : xs.map (Py.toD : a → PyData) = xs.map Datum.toD := List.map_congr_left fun x _ => IsD.eq x
instance : IsD (List a) := ⟨fun xs => congrArg PyData.list (map_toD xs)⟩
instance : IsD (a × b) := ⟨fun p => by show PyData.tuple [_, _] = PyData.tuple [_, _]; rw [IsD.eq, IsD.eq]⟩
instance : IsD (T3 a b c) := ⟨fun p => by show PyData.tuple [_, _, _] = PyData.tuple [_, _, _]; rw [IsD.eq, IsD.eq, IsD.eq]⟩
instance : IsD (T4 a b c d) := ⟨fun p => by show PyData.tuple [_, _, _, _] = PyData.tuple [_, _, _, _]; rw [IsD.eq, IsD.eq, IsD.eq, IsD.eq]⟩
instance [PySem.W.SomeDatum a] : IsD (Option a) := ⟨fun o => by
  cases o with
  | none => rfl
  | some x => exact IsD.eq x⟩
end

/-- v stands for x -/
def R {a : Type} [Py a] (H : Hp) (v : V) (x : a) : Prop := Rep H v (Py.toD x)
/-- item by item -/
def RL {a : Type} [Py a] (H : Hp) (vs : List V) (xs : List a) : Prop := RepA H vs (xs.map Py.toD)
section
variable {H H' : Hp} {v : V} {vs : List V} {p q : Addr}
theorem R.mono {a : Type} [Py a] {x : a} (h : R H v x) (s : Same H H') : R H' v x := Rep.mono s _ _ h
theorem RL.mono {a : Type} [Py a] {xs : List a} (h : RL H vs xs) (s : Same H H') : RL H' vs xs := RepA.mono s _ _ h
theorem R.int {i : Int} : R H (.int i) i := Rep.int i
theorem R.bl {b : Bool} : R H (.bl b) b := Rep.bl b
theorem R.str {x : Str} : R H (.str x) x := Rep.str x
theorem R.unit {u : Unit} : R H .non u := Rep.non
theorem R.non {a : Type} [Py a] : R H .non (none : Option a) := Rep.non
theorem R.jst {a : Type} [Py a] {x : a} (h : R H v x) : R H v (some x) := h
theorem R.int_ {i : Int} (h : R H v i) : v = .int i := by cases h; rfl
theorem R.bl_ {b : Bool} (h : R H v b) : v = .bl b := by cases h; rfl
theorem R.str_ {x : Str} (h : R H v x) : v = .str x := by cases h; rfl
theorem R.unit_ {u : Unit} (h : R H v u) : v = .non := by cases h; rfl
theorem R.non_ {a : Type} [Py a] (h : R H v (none : Option a)) : v = .non := by cases h; rfl
theorem R.jst_ {a : Type} [Py a] {x : a} (h : R H v (some x)) : R H v x := h
variable {a b c d : Type} [Py a] [Py b] [Py c] [Py d]
theorem R.lst {xs : List a} (ha : H p = some (.lst vs)) (h : RL H vs xs) : R H (.ref p) xs := Rep.lst ha h
theorem R.lst_ {xs : List a} (h : R H v xs) : ∃ p vs, v = .ref p ∧ H p = some (.lst vs) ∧ RL H vs xs := by
  have h' : Rep H v (.list (xs.map Py.toD)) := h
  cases h' with
  | lst ha hs => exact ⟨_, _, rfl, ha, hs⟩
theorem R.t2 {x : a × b} {v1 v2 : V} (ha : H p = some (.tup [v1, v2])) (h1 : R H v1 x.1) (h2 : R H v2 x.2) : R H (.ref p) x := Rep.tup ha (.cons h1 (.cons h2 .nil))
theorem R.t2_ {x : a × b} (h : R H v x) : ∃ p v1 v2, v = .ref p ∧ H p = some (.tup [v1, v2]) ∧ R H v1 x.1 ∧ R H v2 x.2 := by
  have h' : Rep H v (.tuple [_, _]) := h
  cases h' with
  | tup ha hs =>
    cases hs with
    | cons h1 hs =>
      cases hs with
      | cons h2 hs =>
        cases hs
        exact ⟨_, _, _, rfl, ha, h1, h2⟩
theorem R.t3 {x : T3 a b c} {v1 v2 v3 : V} (ha : H p = some (.tup [v1, v2, v3])) (h1 : R H v1 x.a) (h2 : R H v2 x.b) (h3 : R H v3 x.c) : R H (.ref p) x := Rep.tup ha (.cons h1 (.cons h2 (.cons h3 .nil)))
theorem R.t3_ {x : T3 a b c} (h : R H v x) : ∃ p v1 v2 v3, v = .ref p ∧ H p = some (.tup [v1, v2, v3]) ∧ R H v1 x.a ∧ R H v2 x.b ∧ R H v3 x.c := by
  have h' : Rep H v (.tuple [_, _, _]) := h
  cases h' with
  | tup ha hs =>
    cases hs with
    | cons h1 hs =>
      cases hs with
      | cons h2 hs =>
        cases hs with
        | cons h3 hs =>
          cases hs
          exact ⟨_, _, _, _, rfl, ha, h1, h2, h3⟩
theorem R.t4 {x : T4 a b c d} {v1 v2 v3 v4 : V} (ha : H p = some (.tup [v1, v2, v3, v4])) (h1 : R H v1 x.a) (h2 : R H v2 x.b) (h3 : R H v3 x.c) (h4 : R H v4 x.d) : R H (.ref p) x :=
  Rep.tup ha (.cons h1 (.cons h2 (.cons h3 (.cons h4 .nil))))
theorem R.t4_ {x : T4 a b c d} (h : R H v x) : ∃ p v1 v2 v3 v4, v = .ref p ∧ H p = some (.tup [v1, v2, v3, v4]) ∧ R H v1 x.a ∧ R H v2 x.b ∧ R H v3 x.c ∧ R H v4 x.d := by
  have h' : Rep H v (.tuple [_, _, _, _]) := h
  cases h' with
  | tup ha hs =>
    cases hs with
    | cons h1 hs =>
      cases hs with
      | cons h2 hs =>
        cases hs with
        | cons h3 hs =>
          cases hs with
          | cons h4 hs =>
            cases hs
            exact ⟨_, _, _, _, _, rfl, ha, h1, h2, h3, h4⟩
theorem RL.nil : RL H [] ([] : List a) := RepA.nil
theorem RL.cons {x : a} {xs : List a} (h : R H v x) (hs : RL H vs xs) : RL H (v :: vs) (x :: xs) := RepA.cons h hs
theorem RL.cons_ {x : a} {xs : List a} (h : RL H vs (x :: xs)) : ∃ w ws, vs = w :: ws ∧ R H w x ∧ RL H ws xs := by
  have h' : RepA H vs (Py.toD x :: xs.map Py.toD) := h
  cases h' with
  | cons h1 h2 => exact ⟨_, _, rfl, h1, h2⟩
theorem RL.nil_ (h : RL H vs ([] : List a)) : vs = [] := by
  have h' : RepA H vs [] := h
  cases h'
  rfl
theorem RL.len : ∀ {vs : List V} {xs : List a}, RL H vs xs → vs.length = xs.length
  | _, [], h => by rw [RL.nil_ h]; rfl
  | _, x :: xs, h => by
    obtain ⟨w, ws, rfl, _, h2⟩ := RL.cons_ h
    rw [List.length_cons, List.length_cons, RL.len h2]
theorem RL.app : ∀ {vs ws : List V} {xs ys : List a}, RL H vs xs → RL H ws ys → RL H (vs ++ ws) (xs ++ ys)
  | _, _, [], _, h, k => by rw [RL.nil_ h]; exact k
  | _, _, x :: xs, _, h, k => by
    obtain ⟨w, ws', rfl, h1, h2⟩ := RL.cons_ h
    exact RL.cons h1 (RL.app h2 k)
theorem RL.snoc {x : a} {xs : List a} (h : RL H vs xs) (k : R H v x) : RL H (vs ++ [v]) (xs ++ [x]) := RL.app h (RL.cons k RL.nil)
theorem RL.get : ∀ {vs : List V} {xs : List a}, RL H vs xs → ∀ {i : Nat} {x : a}, xs[i]? = some x → ∃ w, vs[i]? = some w ∧ R H w x
  | _, [], _, i, x, e => by simp at e
  | _, y :: ys, h, i, x, e => by
    obtain ⟨w, ws, rfl, h1, h2⟩ := RL.cons_ h
    cases i with
    | zero =>
      cases (Option.some.inj e : y = x)
      exact ⟨w, rfl, h1⟩
    | succ i => exact RL.get h2 (i := i) (by simpa using e)
theorem RL.got : ∀ {vs : List V} {xs : List a}, RL H vs xs → ∀ {i : Nat} {w : V}, vs[i]? = some w → ∃ x, xs[i]? = some x ∧ R H w x
  | _, [], h, i, w, e => by rw [RL.nil_ h] at e; simp at e
  | _, y :: ys, h, i, w, e => by
    obtain ⟨w', ws, rfl, h1, h2⟩ := RL.cons_ h
    cases i with
    | zero =>
      cases (Option.some.inj e : w' = w)
      exact ⟨y, rfl, h1⟩
    | succ i => exact RL.got h2 (i := i) (by simpa using e)
theorem RL.atI {xs : List a} (h : RL H vs xs) {i : Int} {x : a} (e : L2.atI xs i = some x) : ∃ w, L2.atI vs i = some w ∧ R H w x := by
  unfold L2.atI at e ⊢
  rw [h.len]
  cases q : ixN xs.length i with
  | none => rw [q] at e; cases e
  | some j =>
    rw [q] at e
    exact h.get e
theorem RL.take : ∀ {vs : List V} {xs : List a} (n : Nat), RL H vs xs → RL H (vs.take n) (xs.take n)
  | _, _, 0, _ => RL.nil
  | _, [], n + 1, h => by rw [RL.nil_ h]; exact RL.nil
  | _, x :: xs, n + 1, h => by
    obtain ⟨w, ws, rfl, h1, h2⟩ := RL.cons_ h
    exact RL.cons h1 (RL.take n h2)
theorem RL.drop : ∀ {vs : List V} {xs : List a} (n : Nat), RL H vs xs → RL H (vs.drop n) (xs.drop n)
  | _, _, 0, h => h
  | _, [], n + 1, h => by rw [RL.nil_ h]; exact RL.nil
  | _, x :: xs, n + 1, h => by
    obtain ⟨w, ws, rfl, h1, h2⟩ := RL.cons_ h
    exact RL.drop n h2
theorem RL.set : ∀ {vs : List V} {xs : List a} (n : Nat) {w : V} {y : a}, RL H vs xs → R H w y → RL H (vs.set n w) (xs.set n y)
  | _, [], n, _, _, h, _ => by rw [RL.nil_ h]; exact RL.nil
  | _, x :: xs, 0, _, _, h, k => by
    obtain ⟨w, ws, rfl, h1, h2⟩ := RL.cons_ h
    exact RL.cons k h2
  | _, x :: xs, n + 1, _, _, h, k => by
    obtain ⟨w, ws, rfl, h1, h2⟩ := RL.cons_ h
    exact RL.cons h1 (RL.set n h2 k)
theorem RL.erase : ∀ {vs : List V} {xs : List a} (n : Nat), RL H vs xs → RL H (vs.eraseIdx n) (xs.eraseIdx n)
  | _, [], n, h => by rw [RL.nil_ h]; exact RL.nil
  | _, x :: xs, 0, h => by
    obtain ⟨w, ws, rfl, h1, h2⟩ := RL.cons_ h
    exact h2
  | _, x :: xs, n + 1, h => by
    obtain ⟨w, ws, rfl, h1, h2⟩ := RL.cons_ h
    exact RL.cons h1 (RL.erase n h2)
theorem RL.dropLast : ∀ {vs : List V} {xs : List a}, RL H vs xs → RL H vs.dropLast xs.dropLast
  | _, [], h => by rw [RL.nil_ h]; exact RL.nil
  | _, x :: xs, h => by
    obtain ⟨w, ws, rfl, h1, h2⟩ := RL.cons_ h
    cases xs with
    | nil => rw [RL.nil_ h2]; exact RL.nil
    | cons y ys =>
      obtain ⟨w2, ws2, rfl, _, _⟩ := RL.cons_ h2
      exact RL.cons h1 (RL.dropLast h2)
theorem RL.rev : ∀ {vs : List V} {xs : List a}, RL H vs xs → RL H vs.reverse xs.reverse
  | _, [], h => by rw [RL.nil_ h]; exact RL.nil
  | _, x :: xs, h => by
    obtain ⟨w, ws, rfl, h1, h2⟩ := RL.cons_ h
    rw [List.reverse_cons, List.reverse_cons]
    exact RL.snoc (RL.rev h2) h1
theorem RL.ints : ∀ {vs : List V} {xs : List Int}, RL H vs xs → vs = xs.map V.int
  | _, [], h => RL.nil_ h
  | _, x :: xs, h => by
    obtain ⟨w, ws, rfl, h1, h2⟩ := RL.cons_ h
    rw [R.int_ h1, RL.ints h2]
    rfl
theorem RL.of_ints : ∀ {xs : List Int}, RL H (xs.map V.int) xs
  | [] => RL.nil
  | x :: xs => RL.cons R.int RL.of_ints
theorem RL.bls : ∀ {vs : List V} {xs : List Bool}, RL H vs xs → vs = xs.map V.bl
  | _, [], h => RL.nil_ h
  | _, x :: xs, h => by
    obtain ⟨w, ws, rfl, h1, h2⟩ := RL.cons_ h
    rw [R.bl_ h1, RL.bls h2]
    rfl
theorem RL.strs : ∀ {vs : List V} {xs : List Str}, RL H vs xs → vs = xs.map V.str
  | _, [], h => RL.nil_ h
  | _, x :: xs, h => by
    obtain ⟨w, ws, rfl, h1, h2⟩ := RL.cons_ h
    rw [R.str_ h1, RL.strs h2]
    rfl
theorem RL.of_strs : ∀ {xs : List Str}, RL H (xs.map V.str) xs
  | [] => RL.nil
  | x :: xs => RL.cons R.str RL.of_strs
theorem RL.cut {xs : List a} (h : RL H vs xs) (lo hi : Option Int) : RL H (cutV vs lo hi) ((xs.drop (HT.sIx xs.length 0 lo)).take (HT.sIx xs.length xs.length hi - HT.sIx xs.length 0 lo)) := by
  unfold cutV
  rw [h.len]
  exact (h.drop _).take _
end

/-! ### owned cells: F is what is read alone, cs are the cells that the code may change -/
/-- what is known of the heap behind a def, by the heap at its entry; the cells at as may have changed -/
structure Gr (as : List Addr) (F H F' H' : Hp) : Prop where
  f : Same F F'
  s : Same F' H'
  k : ∀ b o, b ∉ as → H b = some o → H' b = some o
  t : ∀ b, H b ≠ none → H' b ≠ none
  n : ∀ b, H b ≠ none → F' b = F b ∨ ∃ xs, H b = some (.tup xs)
  u : ∀ b xs, H' b = some (.tup xs) → H b = none ∨ H b = some (.tup xs)
/-- what may be a cell -/
def noTup : HO → Bool
  | .tup _ => false
  | _ => true
structure Kp (as : List Addr) (H H' : Hp) : Prop where
  k : ∀ b o, b ∉ as → H b = some o → H' b = some o
  t : ∀ b, H b ≠ none → H' b ≠ none
/-- the entry of a def -/
structure Ent where
  as : List Addr
  F : Hp
  H : Hp
structure Ow (Z : Ent) (F : Hp) (cs : List (Addr × HO)) (H : Hp) : Prop where
  g : Gr Z.as Z.F Z.H F H
  cf : ∀ c ∈ cs, F c.1 = none
  ch : ∀ c ∈ cs, H c.1 = some c.2
  nd : (cs.map (·.1)).Nodup
  ca : ∀ c ∈ cs, c.1 ∈ Z.as ∨ Z.H c.1 = none
  nt : ∀ c ∈ cs, noTup c.2 = true
/-- what a def asks of its cells -/
structure Pre (F : Hp) (cs : List (Addr × HO)) (H : Hp) : Prop where
  s : Same F H
  cf : ∀ c ∈ cs, F c.1 = none
  ch : ∀ c ∈ cs, H c.1 = some c.2
  nd : (cs.map (·.1)).Nodup
  nt : ∀ c ∈ cs, noTup c.2 = true
theorem Same.new {H : Hp} {p : Addr} {o : HO} (h : H p = none) : Same H (upd H p o) := fun b u e => by
  rw [upd_ne (ne_of_none e h)]
  exact e
theorem Same.upd2 {F H : Hp} {p : Addr} {o : HO} (s : Same F H) : Same (upd F p o) (upd H p o) := fun b u e => by
  by_cases hb : b = p
  · subst hb
    rw [upd_same] at e ⊢
    exact e
  · rw [upd_ne hb] at e ⊢
    exact s b u e
theorem Same.no {F H : Hp} {p : Addr} (s : Same F H) (h : H p = none) : F p = none := Same.free s h
section
variable {Z : Ent} {F F' H H' : Hp} {cs : List (Addr × HO)} {p a : Addr} {o o' : HO}
theorem Pre.start (P : Pre F cs H) : Ow ⟨cs.map (·.1), F, H⟩ F cs H where
  g := ⟨Same.refl _, P.s, fun _ _ _ e => e, fun _ e => e, fun _ _ => .inl rfl, fun _ _ e => .inr e⟩
  cf := P.cf
  ch := P.ch
  nd := P.nd
  ca := fun c hc => .inl (List.mem_map.mpr ⟨c, hc, rfl⟩)
  nt := P.nt
theorem Ow.s (O : Ow Z F cs H) : Same F H := O.g.s
theorem Ow.pre (O : Ow Z F cs H) : Pre F cs H := ⟨O.g.s, O.cf, O.ch, O.nd, O.nt⟩
theorem Ow.pre0 (O : Ow Z F cs H) : Pre F [] H := ⟨O.g.s, (fun _ h => nomatch h), (fun _ h => nomatch h), List.nodup_nil, fun _ h => nomatch h⟩
theorem Ow.pre1 (O : Ow Z F cs H) (i : Nat) (e : cs[i]? = some (a, o)) : Pre F [(a, o)] H := by
  have m := List.mem_of_getElem? e
  refine ⟨O.g.s, fun c hc => ?_, fun c hc => ?_, by simp, fun c hc => ?_⟩
  · rw [List.mem_singleton.mp hc]; exact O.cf _ m
  · rw [List.mem_singleton.mp hc]; exact O.ch _ m
  · rw [List.mem_singleton.mp hc]; exact O.nt _ m
theorem Ow.at (O : Ow Z F cs H) (i : Nat) (e : cs[i]? = some (a, o)) : H a = some o := O.ch _ (List.mem_of_getElem? e)
theorem Ow.no (O : Ow Z F cs H) (h : H p = none) : F p = none := Same.no O.s h
theorem Gr.new (g : Gr Z.as Z.F Z.H F H) (h : H p = none) : Gr Z.as Z.F Z.H F (upd H p o) where
  f := g.f
  s := g.s.trans (Same.new h)
  k := fun b u hb e => Same.new h b u (g.k b u hb e)
  t := fun b e z => by
    by_cases hb : b = p
    · subst hb; exact g.t _ e h
    · rw [upd_ne hb] at z; exact g.t b e z
  n := g.n
  u := fun b xs e => by
    by_cases hb : b = p
    · subst hb
      cases q : Z.H b with
      | none => exact .inl rfl
      | some u => exact absurd h (g.t b (by rw [q]; simp))
    · rw [upd_ne hb] at e; exact g.u b xs e
/-- a new cell -/
theorem Ow.new (O : Ow Z F cs H) (h : H p = none) (hn : noTup o = true := by rfl) : Ow Z F ((p, o) :: cs) (upd H p o) where
  g := O.g.new h
  cf := fun c hc => by
    rcases List.mem_cons.mp hc with rfl | hc
    · exact O.no h
    · exact O.cf c hc
  ch := fun c hc => by
    rcases List.mem_cons.mp hc with rfl | hc
    · exact upd_same
    · rw [upd_ne (ne_of_none (O.ch c hc) h)]; exact O.ch c hc
  nd := by
    rw [List.map_cons, List.nodup_cons]
    refine ⟨fun hm => ?_, O.nd⟩
    obtain ⟨c, hc, e⟩ := List.mem_map.mp hm
    have z := O.ch c hc
    rw [e] at z
    rw [z] at h
    cases h
  ca := fun c hc => by
    rcases List.mem_cons.mp hc with rfl | hc
    · refine .inr ?_
      cases q : Z.H p with
      | none => rfl
      | some u => exact absurd h (O.g.t p (by rw [q]; simp))
    · exact O.ca c hc
  nt := fun c hc => by
    rcases List.mem_cons.mp hc with rfl | hc
    · exact hn
    · exact O.nt c hc
/-- a new thing that is read alone -/
theorem Ow.put (O : Ow Z F cs H) (h : H p = none) : Ow Z (upd F p o) cs (upd H p o) where
  g := {
    f := O.g.f.trans (Same.new (O.no h))
    s := Same.upd2 O.g.s
    k := (O.g.new h).k
    t := (O.g.new h).t
    n := fun b e => by
      have hb : b ≠ p := fun z => by subst z; exact O.g.t _ e h
      rw [upd_ne hb]
      exact O.g.n b e
    u := (O.g.new h).u }
  cf := fun c hc => by rw [upd_ne (ne_of_none (O.ch c hc) h)]; exact O.cf c hc
  ch := fun c hc => by rw [upd_ne (ne_of_none (O.ch c hc) h)]; exact O.ch c hc
  nd := O.nd
  ca := O.ca
  nt := O.nt
theorem map_set_fst {i : Nat} (e : cs[i]? = some (a, o)) : (cs.set i (a, o')).map (·.1) = cs.map (·.1) := by
  rw [List.map_set]
  obtain ⟨h, e'⟩ := List.getElem?_eq_some_iff.mp e
  refine List.ext_getElem? fun j => ?_
  by_cases hj : i = j
  · subst hj
    rw [List.getElem?_set_self (by simpa using h), List.getElem?_map, e]
    rfl
  · rw [List.getElem?_set_ne hj]
theorem nd_other {i : Nat} (nd : (cs.map (·.1)).Nodup) (e : cs[i]? = some (a, o)) {c : Addr × HO} (hc : c ∈ cs.set i (a, o')) : c = (a, o') ∨ (c ∈ cs ∧ c.1 ≠ a) := by
  obtain ⟨j, hj⟩ := List.mem_iff_getElem?.mp hc
  by_cases hij : i = j
  · subst hij
    obtain ⟨h, _⟩ := List.getElem?_eq_some_iff.mp e
    rw [List.getElem?_set_self h] at hj
    exact .inl (Option.some.inj hj).symm
  · rw [List.getElem?_set_ne hij] at hj
    refine .inr ⟨List.mem_of_getElem? hj, fun z => hij ?_⟩
    have h1 : (cs.map (·.1))[i]? = some a := by rw [List.getElem?_map, e]; rfl
    have h2 : (cs.map (·.1))[j]? = some a := by rw [List.getElem?_map, hj, ← z]; rfl
    exact nd_ix nd h1 h2
/-- a cell is changed -/
theorem Ow.set (O : Ow Z F cs H) (i : Nat) (o' : HO) (e : cs[i]? = some (a, o)) (hn : noTup o' = true := by rfl) : Ow Z F (cs.set i (a, o')) (upd H a o') := by
  have m := List.mem_of_getElem? e
  have ha := O.ca _ m
  refine ⟨⟨O.g.f, fun b u q => ?_, fun b u hb q => ?_, fun b q z => ?_, O.g.n, fun b xs q => ?_⟩, fun c hc => ?_, fun c hc => ?_, ?_, fun c hc => ?_, fun c hc => ?_⟩
  · have hb : b ≠ a := fun z => by subst z; rw [O.cf _ m] at q; cases q
    rw [upd_ne hb]
    exact O.g.s b u q
  · have hba : b ≠ a := fun z => by
      subst z
      rcases ha with ha | ha
      · exact hb ha
      · have q' : Z.H b = some u := q
        have ha' : Z.H b = none := ha
        rw [ha'] at q'; cases q'
    rw [upd_ne hba]
    exact O.g.k b u hb q
  · by_cases hb : b = a
    · subst hb; rw [upd_same] at z; cases z
    · rw [upd_ne hb] at z; exact O.g.t b q z
  · by_cases hb : b = a
    · subst hb
      rw [upd_same] at q
      rw [Option.some.inj q] at hn
      cases hn
    · rw [upd_ne hb] at q; exact O.g.u b xs q
  · rcases nd_other O.nd e hc with rfl | ⟨h1, _⟩
    · exact O.cf (a, o) m
    · exact O.cf c h1
  · rcases nd_other O.nd e hc with rfl | ⟨h1, h2⟩
    · exact upd_same
    · rw [upd_ne h2]; exact O.ch c h1
  · rw [map_set_fst e]; exact O.nd
  · rcases nd_other O.nd e hc with rfl | ⟨h1, _⟩
    · exact ha
    · exact O.ca c h1
  · rcases nd_other O.nd e hc with rfl | ⟨h1, _⟩
    · exact hn
    · exact O.nt c h1
theorem mem_erase {i : Nat} {c : Addr × HO} (h : c ∈ cs.eraseIdx i) : c ∈ cs := List.mem_of_mem_eraseIdx h
theorem nd_erase {i : Nat} (h : (cs.map (·.1)).Nodup) : ((cs.eraseIdx i).map (·.1)).Nodup := by
  exact h.sublist ((List.eraseIdx_sublist cs i).map (fun x => x.1))
/-- a cell that nobody changes any more (it was not there at the entry) -/
theorem Ow.frz (O : Ow Z F cs H) (i : Nat) (e : cs[i]? = some (a, o)) (hz : Z.H a = none) : Ow Z (upd F a o) (cs.eraseIdx i) H := by
  have m := List.mem_of_getElem? e
  have h1 : ∀ c ∈ cs.eraseIdx i, c.1 ≠ a := fun c hc z => by
    have nd := O.nd
    obtain ⟨hi, e'⟩ := List.getElem?_eq_some_iff.mp e
    obtain ⟨j, hj⟩ := List.mem_iff_getElem?.mp hc
    rw [List.getElem?_eraseIdx] at hj
    have h1 : (cs.map (·.1))[i]? = some a := by rw [List.getElem?_map, e]; rfl
    by_cases hji : j < i
    · rw [if_pos hji] at hj
      have h2 : (cs.map (·.1))[j]? = some a := by rw [List.getElem?_map, hj, ← z]; rfl
      have := nd_ix nd h1 h2
      omega
    · rw [if_neg hji] at hj
      have h2 : (cs.map (·.1))[j + 1]? = some a := by rw [List.getElem?_map, hj, ← z]; rfl
      have := nd_ix nd h1 h2
      omega
  refine ⟨⟨O.g.f.trans (Same.new (O.cf _ m)), fun b u q => ?_, O.g.k, O.g.t, fun b q => ?_, O.g.u⟩, fun c hc => ?_, fun c hc => O.ch c (mem_erase hc), nd_erase O.nd, fun c hc => O.ca c (mem_erase hc), fun c hc => O.nt c (mem_erase hc)⟩
  · by_cases hb : b = a
    · subst hb; rw [upd_same] at q; rw [← q]; exact O.ch _ m
    · rw [upd_ne hb] at q; exact O.g.s b u q
  · have hb : b ≠ a := fun z => by subst z; exact q hz
    rw [upd_ne hb]
    exact O.g.n b q
  · rw [upd_ne (h1 c hc)]; exact O.cf c (mem_erase hc)
theorem Ow.drop (O : Ow Z F cs H) (i : Nat) : Ow Z F (cs.eraseIdx i) H := ⟨O.g, fun c hc => O.cf c (mem_erase hc), fun c hc => O.ch c (mem_erase hc), nd_erase O.nd, fun c hc => O.ca c (mem_erase hc), fun c hc => O.nt c (mem_erase hc)⟩
theorem Ow.frzS (O : Ow Z F cs H) (i : Nat) (e : cs[i]? = some (a, o)) : Same F (upd F a o) := Same.new (O.cf _ (List.mem_of_getElem? e))
theorem Ow.putS (O : Ow Z F cs H) (h : H p = none) : Same F (upd F p o) := Same.new (O.no h)
theorem Gr.then {as : List Addr} (g0 : Gr Z.as Z.F Z.H F H) (g : Gr as F H F' H') (ha : ∀ b ∈ as, b ∈ Z.as ∨ Z.H b = none) : Gr Z.as Z.F Z.H F' H' where
  f := g0.f.trans g.f
  s := g.s
  k := fun b u hb e => by
    refine g.k b u (fun z => ?_) (g0.k b u hb e)
    rcases ha b z with h | h
    · exact hb h
    · rw [h] at e; cases e
  t := fun b e => g.t b (g0.t b e)
  n := fun b e => by
    rcases g0.n b e with h0 | h0
    · rcases g.n b (g0.t b e) with h1 | ⟨xs, hx⟩
      · exact .inl (h1.trans h0)
      · rcases g0.u b xs hx with z | z
        · exact absurd z e
        · exact .inr ⟨xs, z⟩
    · exact .inr h0
  u := fun b xs e => by
    rcases g.u b xs e with z | z
    · refine .inl ?_
      cases q : Z.H b with
      | none => rfl
      | some u => exact absurd z (g0.t b (by rw [q]; simp))
    · exact g0.u b xs z
theorem Gr.none {as : List Addr} (g : Gr as F H F' H') {c : Addr × HO} (h : H c.1 = some c.2) (hn : noTup c.2 = true) (hf : F c.1 = Option.none) : F' c.1 = Option.none := by
  rcases g.n c.1 (by rw [h]; simp) with z | ⟨xs, z⟩
  · exact z.trans hf
  · rw [h] at z
    rw [Option.some.inj z] at hn
    cases hn
/-- behind a call that changes none of our cells -/
theorem Ow.call0 (O : Ow Z F cs H) (g : Gr [] F H F' H') : Ow Z F' cs H' where
  g := O.g.then g (fun _ h => nomatch h)
  cf := fun c hc => g.none (O.ch c hc) (O.nt c hc) (O.cf c hc)
  ch := fun c hc => g.k _ _ (fun h => nomatch h) (O.ch c hc)
  nd := O.nd
  ca := O.ca
  nt := O.nt
/-- .. one -/
theorem Ow.call1 (O : Ow Z F cs H) (g : Gr [a] F H F' H') (i : Nat) (e : cs[i]? = some (a, o)) (h' : H' a = some o') (hn : noTup o' = true := by rfl) : Ow Z F' (cs.set i (a, o')) H' := by
  have m := List.mem_of_getElem? e
  refine ⟨O.g.then g (fun b hb => by rw [List.mem_singleton.mp hb]; exact O.ca _ m), fun c hc => ?_, fun c hc => ?_, by rw [map_set_fst e]; exact O.nd, fun c hc => ?_, fun c hc => ?_⟩
  · rcases nd_other O.nd e hc with rfl | ⟨h1, _⟩
    · exact g.none (c := (a, o)) (O.ch (a, o) m) (O.nt (a, o) m) (O.cf (a, o) m)
    · exact g.none (O.ch c h1) (O.nt c h1) (O.cf c h1)
  · rcases nd_other O.nd e hc with rfl | ⟨h1, h2⟩
    · exact h'
    · exact g.k _ _ (fun z => h2 (List.mem_singleton.mp z)) (O.ch c h1)
  · rcases nd_other O.nd e hc with rfl | ⟨h1, _⟩
    · exact O.ca (a, o) m
    · exact O.ca c h1
  · rcases nd_other O.nd e hc with rfl | ⟨h1, _⟩
    · exact hn
    · exact O.nt c h1
/-- a cell that a call made -/
theorem Ow.add {H0 : Hp} {F0 : Hp} (O : Ow Z F cs H) (O0 : Ow Z F0 cs' H0) (hk : ∀ c ∈ cs, c.1 ∈ cs'.map (·.1)) (hn : H0 p = none) (hf : F p = none) (h : H p = some o) (ht : noTup o = true := by rfl) : Ow Z F ((p, o) :: cs) H where
  g := O.g
  cf := fun c hc => by
    rcases List.mem_cons.mp hc with rfl | hc
    · exact hf
    · exact O.cf c hc
  ch := fun c hc => by
    rcases List.mem_cons.mp hc with rfl | hc
    · exact h
    · exact O.ch c hc
  nd := by
    rw [List.map_cons, List.nodup_cons]
    refine ⟨fun hm => ?_, O.nd⟩
    obtain ⟨c, hc, e⟩ := List.mem_map.mp hm
    obtain ⟨c', hc', e'⟩ := List.mem_map.mp (hk c hc)
    have z := O0.ch c' hc'
    rw [e', e] at z
    rw [z] at hn
    cases hn
  ca := fun c hc => by
    rcases List.mem_cons.mp hc with rfl | hc
    · refine .inr ?_
      cases q : Z.H p with
      | none => rfl
      | some u => exact absurd hn (O0.g.t p (by rw [q]; simp))
    · exact O.ca c hc
  nt := fun c hc => by
    rcases List.mem_cons.mp hc with rfl | hc
    · exact ht
    · exact O.nt c hc
theorem Ow.kp (O : Ow Z F cs H) : Kp Z.as Z.H H := ⟨O.g.k, O.g.t⟩
theorem Kp.of {as : List Addr} {H0 H1 : Hp} (g : Gr as F H0 F' H1) : Kp as H0 H1 := ⟨g.k, g.t⟩
/-- an error of a call leaves this def -/
theorem Ow.kpCall {as : List Addr} {H1 : Hp} (O : Ow Z F cs H) (k : Kp as H H1) (ha : ∀ b ∈ as, ∃ o, (b, o) ∈ cs) : Kp Z.as Z.H H1 where
  k := fun b u hb e => by
    refine k.k b u (fun z => ?_) (O.g.k b u hb e)
    obtain ⟨o, hc⟩ := ha b z
    rcases O.ca _ hc with h | h
    · exact hb h
    · have h' : Z.H b = none := h
      rw [h'] at e; cases e
  t := fun b e => k.t b (O.g.t b e)
theorem Ow.kp0 {H1 : Hp} (O : Ow Z F cs H) (k : Kp [] H H1) : Kp Z.as Z.H H1 := O.kpCall k fun _ h => nomatch h
theorem Ow.kp1 {H1 : Hp} (O : Ow Z F cs H) (k : Kp [a] H H1) (i : Nat) (e : cs[i]? = some (a, o)) : Kp Z.as Z.H H1 := O.kpCall k fun b hb => by
  rw [List.mem_singleton.mp hb]
  exact ⟨o, List.mem_of_getElem? e⟩
end
end PG

set_option Elab.async false
set_option linter.all false
set_option maxRecDepth 100000
set_option maxHeartbeats 4000000
namespace PG
open PySem L2
open PySem.W (T3 T4 Datum DatumOrd Holds HoldAll EachIs)
/-! ### rules over typed data -/
section
variable {X : Cx} {pins : List (Addr × Obj)} {σ : St} {H : Hp} {s : Shared} {v : V} {u : Value} {vs : List V} {us : List Value}
theorem R.holds {a : Type} [Py a] [DecidableEq a] [Datum a] [IsD a] {x : a} (I : Inv X pins σ H s) (h : R H v x) (r : RelV v u) : Holds s.heap u x := by
  obtain ⟨as, q⟩ := Dp.reads I _ _ _ (Rep.dp _ _ h) r
  rw [IsD.eq] at q
  exact ⟨as, q⟩
theorem RL.holds {a : Type} [Py a] [DecidableEq a] [Datum a] [IsD a] {xs : List a} (I : Inv X pins σ H s) (h : RL H vs xs) (r : Vals vs us) : HoldAll s.heap us xs := by
  obtain ⟨as, q⟩ := Dp.readsAll I _ _ _ (RepA.dp _ _ h) r
  rw [map_toD] at q
  exact ⟨as, q⟩
end
section
variable {X : Cx} (a : Type) [Py a] [DecidableEq a] [Datum a] [IsD a]
def rEqT : R2 := fun x y H Q => ∃ p q : a, R H x p ∧ R H y q ∧ Q (.bl (decide (p = q))) H
def rNeT : R2 := fun x y H Q => ∃ p q : a, R H x p ∧ R H y q ∧ Q (.bl (decide (p ≠ q))) H
theorem op_eqT (hu : X.A.units + 64 < cLine) (hd : Datum.depth a ≤ 64 := by decide) : OpR X (compareOp .Eq) (rEqT a) := by
  intro pins s σ H x y v u Q I rx ry h
  obtain ⟨p, q, hp, hq, k⟩ := h
  exact PySem.W.eq_datum (hp.holds I rx) (hq.holds I ry) (by omega) ⟨.bl _, H, I, rfl, k⟩
theorem op_neT (hu : X.A.units + 64 < cLine) (hd : Datum.depth a ≤ 64 := by decide) : OpR X (compareOp .NotEq) (rNeT a) := by
  intro pins s σ H x y v u Q I rx ry h
  obtain ⟨p, q, hp, hq, k⟩ := h
  exact PySem.W.ne_datum (hp.holds I rx) (hq.holds I ry) (by omega) ⟨.bl _, H, I, rfl, k⟩
def rInT (neg : Bool) : R2 := fun x y H Q => ∃ (p : a) (l : Addr) (vs : List V) (ys : List a), R H x p ∧ y = .ref l ∧ (H l = some (.lst vs) ∨ H l = some (.tup vs)) ∧ RL H vs ys ∧ Q (.bl (if neg then decide (p ∉ ys) else decide (p ∈ ys))) H
end
section
variable {X : Cx} (a : Type) [Py a] [DecidableEq a] [Datum a] [IsD a]
theorem op_inT (hu : X.A.units + 64 < cLine) (hd : Datum.depth a ≤ 60 := by decide) : OpR X (compareOp .In) (rInT a false) := by
  intro pins s σ H x y v u Q I rx ry h
  obtain ⟨p, l, vs, ys, hp, rfl, hl, hy, k⟩ := h
  cases ry
  rcases hl with hl | hl
  · obtain ⟨its, rv, hL, _⟩ := I.list (SqL.of (K := X.K) hl)
    exact PySem.W.in_list_datum hL.isList (by simpa using hy.holds I rv) (hp.holds I rx) (by omega) ⟨.bl _, H, I, rfl, k⟩
  · obtain ⟨its, rv, hL, _⟩ := I.tuple (SqT.of (K := X.K) hl)
    exact PySem.W.in_tuple_datum (show s.heap.IsTuple l its.toArray from hL) (by simpa using hy.holds I rv) (hp.holds I rx) (by omega) ⟨.bl _, H, I, rfl, k⟩
theorem op_ninT (hu : X.A.units + 64 < cLine) (hd : Datum.depth a ≤ 60 := by decide) : OpR X (compareOp .NotIn) (rInT a true) := by
  intro pins s σ H x y v u Q I rx ry h
  obtain ⟨p, l, vs, ys, hp, rfl, hl, hy, k⟩ := h
  cases ry
  rcases hl with hl | hl
  · obtain ⟨its, rv, hL, _⟩ := I.list (SqL.of (K := X.K) hl)
    exact PySem.W.notIn_list_datum hL.isList (by simpa using hy.holds I rv) (hp.holds I rx) (by omega) ⟨.bl _, H, I, rfl, k⟩
  · obtain ⟨its, rv, hL, _⟩ := I.tuple (SqT.of (K := X.K) hl)
    exact PySem.W.notIn_tuple_datum (show s.heap.IsTuple l its.toArray from hL) (by simpa using hy.holds I rv) (hp.holds I rx) (by omega) ⟨.bl _, H, I, rfl, k⟩
end

/-! ### sorted -/
/-- how data may be sorted: all are tuples with an item, or none is a tuple or None -/
class SortB (a : Type) [DecidableEq a] [Datum a] : Prop where
  ok : (∀ x : a, ∃ d r, Datum.toD x = .tuple (d :: r)) ∨ ∀ x : a, Datum.toD x ≠ .none ∧ ∀ ds, Datum.toD x ≠ .tuple ds
instance : SortB Int := ⟨.inr fun x => ⟨(fun e => nomatch (show PyData.int x = .none from e)), fun ds e => nomatch (show PyData.int x = .tuple ds from e)⟩⟩
instance : SortB Str := ⟨.inr fun x => ⟨(fun e => nomatch (show PyData.str x = .none from e)), fun ds e => nomatch (show PyData.str x = .tuple ds from e)⟩⟩
section
variable {a b c : Type} [DecidableEq a] [Datum a] [DecidableEq b] [Datum b] [DecidableEq c] [Datum c]
instance : SortB (List a) := ⟨.inr fun x => ⟨(fun e => nomatch (show PyData.list _ = .none from e)), fun ds e => nomatch (show PyData.list _ = .tuple ds from e)⟩⟩
instance : SortB (a × b) := ⟨.inl fun x => ⟨_, _, rfl⟩⟩
instance : SortB (T3 a b c) := ⟨.inl fun x => ⟨_, _, rfl⟩⟩
end
/-- Python's order -/
def leT {a : Type} [DecidableEq a] [DatumOrd a] (x y : a) : Bool := !DatumOrd.lt y x
def sortT {a : Type} [DecidableEq a] [DatumOrd a] (xs : List a) : List a := xs.mergeSort leT
theorem dataLe_T {a β : Type} [DecidableEq a] [DatumOrd a] (f : β → a) : PySem.W.dataLe false (fun b => Datum.toD (f b)) = fun x y => leT (f x) (f y) := by
  funext x y
  rw [PySem.W.dataLe_eq]
  show (!PySem.W.dataLt (Datum.toD (f y)) (Datum.toD (f x))) = _
  rw [DatumOrd.lt_eq]
  rfl
section
variable {a : Type} [Py a] [DecidableEq a] [DatumOrd a] [IsD a] {H : Hp}
theorem each_pairs : ∀ {vs : List V} {xs : List a} {us : List Value}, RL H vs xs → Vals vs us → EachIs (fun (u : Value) (p : V × a) => RelV p.1 u ∧ R H p.1 p.2) us (vs.zip xs)
  | _, [], _, h, r => by
    rw [RL.nil_ h] at r ⊢
    cases r
    exact .nil
  | _, x :: xs, _, h, r => by
    obtain ⟨w, ws, rfl, h1, h2⟩ := RL.cons_ h
    cases r with
    | cons r1 r2 => exact .cons ⟨r1, h1⟩ (each_pairs h2 r2)
theorem pairs_vals : ∀ {ps : List (V × a)} {us : List Value}, EachIs (fun (u : Value) (p : V × a) => RelV p.1 u ∧ R H p.1 p.2) us ps → Vals (ps.map (·.1)) us ∧ RL H (ps.map (·.1)) (ps.map (·.2))
  | _, _, .nil => ⟨.nil, RL.nil⟩
  | _, _, .cons ⟨r1, h1⟩ t => ⟨.cons r1 (pairs_vals t).1, RL.cons h1 (pairs_vals t).2⟩
theorem each_imp {β γ : Type} {A B : β → γ → Prop} (f : ∀ x y, A x y → B x y) : ∀ {xs : List β} {ys : List γ}, EachIs A xs ys → EachIs B xs ys
  | _, _, .nil => .nil
  | _, _, .cons h t => .cons (f _ _ h) (each_imp f t)
theorem zip_snd : ∀ {vs : List V} {xs : List a}, vs.length = xs.length → (vs.zip xs).map (·.2) = xs
  | [], [], _ => rfl
  | v :: vs, x :: xs, h => by
    rw [List.zip_cons_cons, List.map_cons, zip_snd (by simpa using h)]
  | [], _ :: _, h => by simp at h
  | _ :: _, [], h => by simp at h
theorem sort_zip {vs : List V} {xs : List a} (h : vs.length = xs.length) : ((vs.zip xs).mergeSort fun p q => leT p.2 q.2).map (·.2) = sortT xs := by
  unfold sortT
  rw [List.map_mergeSort (s := leT) (fun _ _ _ _ => rfl), zip_snd h]
end
section
variable {a : Type} [Py a] [DecidableEq a] [DatumOrd a] [IsD a] {H : Hp}
def sortV (ws : List V) (xs : List a) : List V := ((ws.zip xs).mergeSort fun p q => leT p.2 q.2).map (·.1)
theorem RL.pairs : ∀ {ws : List V} {xs : List a}, RL H ws xs → ∀ p ∈ ws.zip xs, R H p.1 p.2
  | _, [], _, p, hp => by simp at hp
  | _, x :: xs, h, p, hp => by
    obtain ⟨w, ws, rfl, h1, h2⟩ := RL.cons_ h
    rw [List.zip_cons_cons] at hp
    rcases List.mem_cons.mp hp with rfl | hp
    · exact h1
    · exact RL.pairs h2 p hp
theorem RL.of_pairs : ∀ {ps : List (V × a)}, (∀ p ∈ ps, R H p.1 p.2) → RL H (ps.map (·.1)) (ps.map (·.2))
  | [], _ => RL.nil
  | p :: ps, h => RL.cons (h p List.mem_cons_self) (RL.of_pairs fun q hq => h q (List.mem_cons_of_mem _ hq))
theorem RL.sorted {ws : List V} {xs : List a} (h : RL H ws xs) : RL H (sortV ws xs) (sortT xs) := by
  have q : RL H (sortV ws xs) (((ws.zip xs).mergeSort fun p q => leT p.2 q.2).map (·.2)) := RL.of_pairs fun p hp => h.pairs p (List.mem_mergeSort.mp hp)
  rw [sort_zip h.len] at q
  exact q
end
section
variable {X : Cx} (a : Type) [Py a] [DecidableEq a] [DatumOrd a] [IsD a]
/-- sorted(xs) of a list: a new list -/
def rSortedT : List V → Hp → VK → Prop := fun vs H Q => ∃ (l : Addr) (ws : List V) (xs : List a), vs = [.ref l] ∧ H l = some (.lst ws) ∧ RL H ws xs ∧ ∀ (p : Addr), H p = none → Q (.ref p) (upd H p (.lst (sortV ws xs)))
theorem cr_sortedT [SortB a] (hu : X.A.units + 128 < cLine) (hd : Datum.depth a ≤ 100 := by decide) : CallR X (.builtin "sorted") (rSortedT a) := by
  intro pins s σ H vs us Q I r h
  obtain ⟨l, ws, xs, rfl, hl, hx, k⟩ := h
  obtain ⟨its, rv, hL, hz⟩ := I.list (SqL.of (K := X.K) hl)
  rw [Vals.ref1 r]
  have hlen : ws.length = xs.length := hx.len
  have hE := each_pairs hx rv
  refine PySem.W.sorted_data (bs := ws.zip xs) (enc := fun p => Datum.toD p.2) hL.isList hE (each_imp (fun u p hp => hp.2.holds I hp.1) hE) (PySem.W.AllAlike.of fun p q => DatumOrd.alike p.2 q.2) ?_ (by rw [List.length_zip, ← hlen, Nat.min_self]; exact hz) (fun p _ => ?_) fun out ho he => ?_
  · rcases SortB.ok (a := a) with q | q
    · exact PySem.W.Sortable.tuples fun p => q p.2
    · exact PySem.W.Sortable.others fun p => q p.2
  · have := Datum.depth_le p.2
    omega
  · rw [dataLe_T (fun p : V × a => p.2)] at he
    obtain ⟨q1, q2⟩ := pairs_vals he
    obtain ⟨ep, he'⟩ := PyProof.Rows.sortedAll_at s.heap its out.toArray
    refine ⟨.ref _, upd H (s.heap.objs.size + 1) (.lst _), I.laid (t' := s.toks) (fun _ _ => PyProof.Rows.sortedAll_old) (Nat.le_succ _) ⟨?_, out, ep, q1, he'⟩, rfl, k _ (I.hok.fresh (Nat.le_succ _))⟩
    rw [List.length_map, List.length_mergeSort, List.length_zip, ← hlen, Nat.min_self]
    exact hz
end
end PG

set_option Elab.async false
set_option linter.all false
set_option maxRecDepth 100000
set_option maxHeartbeats 4000000
namespace PG
open PySem PySem.Spec PyProof.Rows L2
open PySem.W (T3 T4 Datum DatumOrd Holds HoldAll EachIs)

instance (i j : Int) : Decidable (CMulW i j) := inferInstanceAs (Decidable (_ < _))
instance (i j : Int) : Decidable (CDivW i j) := inferInstanceAs (Decidable (_ ∧ _))
instance (i j : Int) : Decidable (CPow i j) := inferInstanceAs (Decidable (_ ∧ _ ∧ _))
theorem szl : sizeLine = 16777216 := sizeLine_eq
theorem lt_line {n : Nat} (h : n < 16777216) : n < sizeLine := by rw [szl]; exact h
theorem le_line {n : Nat} (h : n < 16777216) : n ≤ sizeLine := Nat.le_of_lt (lt_line h)
theorem len_line {vs : List V} (h : vs.length < 16777216 := by (show _ < 16777216); simp) : vs.length ≤ sizeLine := le_line h
theorem SqLF {K : PySem.W.Frag} {F H : Hp} {p : Addr} {vs : List V} (s : Same F H) (h : F p = some (.lst vs)) : SqL K H p vs := SqL.of (s _ _ h)
theorem SqTF {K : PySem.W.Frag} {F H : Hp} {p : Addr} {vs : List V} (s : Same F H) (h : F p = some (.tup vs)) : SqT K H p vs := SqT.of (s _ _ h)

/-! ### mirrors of what may go wrong -/
def setI {a : Type} (xs : List a) (i : Int) (y : a) : M (List a) := match ixN xs.length i with
  | some j => .ok (xs.set j y)
  | none => bad
def popI {a : Type} (xs : List a) (i : Int) : M (a × List a) := if xs.length < 16777216 then (match ixN xs.length i with
    | some j => (match xs[j]? with
      | some y => .ok (y, xs.eraseIdx j)
      | none => bad)
    | none => bad) else bad
def popL {a : Type} (xs : List a) : M (a × List a) := match xs[xs.length - 1]? with
  | some y => .ok (y, xs.dropLast)
  | none => bad
def appL {a : Type} (xs : List a) (y : a) : M (List a) := if xs.length < 16777216 then .ok (xs ++ [y]) else bad
def rangeL (lo hi : Int) : List Int := (List.range (hi - lo).toNat).map fun (i : Nat) => lo + (i : Int)
def okR (i : Int) : Prop := -1000000 ≤ i ∧ i ≤ 1000000
instance (i : Int) : Decidable (okR i) := inferInstanceAs (Decidable (_ ∧ _))
theorem okR.lo {i : Int} (h : okR i) : -(2 ^ 62) ≤ i := by obtain ⟨a, b⟩ := h; omega
theorem okR.hi {i : Int} (h : okR i) : i < 2 ^ 62 := by obtain ⟨a, b⟩ := h; omega
theorem rangeL_get {lo hi : Int} {i : Nat} (h : i < (hi - lo).toNat) : (rangeL lo hi).drop i = (lo + (i : Int)) :: (rangeL lo hi).drop (i + 1) := by
  unfold rangeL
  rw [List.drop_eq_getElem_cons (by simpa using h)]
  simp
theorem rangeL_end {lo hi : Int} : (rangeL lo hi).drop (hi - lo).toNat = [] := by
  rw [List.drop_eq_nil_iff]
  unfold rangeL
  simp
section
variable {a b : Type} {Q : a → Prop} {E : String → Prop} {H : Hp}
theorem wp_setI {xs : List b} {i : Int} {y : b} {k : List b → M a} (h : wp (setI xs i y >>= k) Q E) : ∃ j, ixN xs.length i = some j ∧ wp (k (xs.set j y)) Q E := by
  unfold setI at h
  cases e : ixN xs.length i with
  | none => rw [e] at h; exact h.elim
  | some j => rw [e] at h; exact ⟨j, rfl, h⟩
theorem wp_popI {xs : List b} {i : Int} {k : b × List b → M a} (h : wp (popI xs i >>= k) Q E) : ∃ j y, seqIndex? i xs.length = some j ∧ -(2 ^ 63) ≤ i ∧ i < 2 ^ 63 ∧ xs[j]? = some y ∧ wp (k (y, xs.eraseIdx j)) Q E := by
  unfold popI at h
  by_cases hl : xs.length < 16777216
  · rw [if_pos hl] at h
    cases e : ixN xs.length i with
    | none => rw [e] at h; exact h.elim
    | some j =>
      rw [e] at h
      have h : wp ((match xs[j]? with
        | some y => .ok (y, xs.eraseIdx j)
        | none => bad) >>= k) Q E := h
      cases e2 : xs[j]? with
      | none => rw [e2] at h; exact h.elim
      | some y =>
        rw [e2] at h
        obtain ⟨q1, q2, q3, q4⟩ := ixN_seq e
        exact ⟨j, y, q1, by omega, by omega, e2, h⟩
  · rw [if_neg hl] at h
    exact h.elim
theorem wp_popL {xs : List b} {k : b × List b → M a} (h : wp (popL xs >>= k) Q E) : ∃ y, xs[xs.length - 1]? = some y ∧ wp (k (y, xs.dropLast)) Q E := by
  unfold popL at h
  cases e : xs[xs.length - 1]? with
  | none => rw [e] at h; exact h.elim
  | some y => rw [e] at h; exact ⟨y, rfl, h⟩
theorem wp_appL {xs : List b} {y : b} {k : List b → M a} (h : wp (appL xs y >>= k) Q E) : xs.length < sizeLine ∧ wp (k (xs ++ [y])) Q E := by
  unfold appL at h
  by_cases hl : xs.length < 16777216
  · rw [if_pos hl] at h
    exact ⟨lt_line hl, h⟩
  · rw [if_neg hl] at h
    exact h.elim
end
/-! loops, by what is left to be done -/
section
variable {i s r a c : Type} {Q : a → Prop} {E : String → Prop}
theorem loopN_L {b : i → s → M s} {xs : List i} {x : s} {k : s → M a} (h : wp (loopN b xs x >>= k) Q E) :
    ∃ L : List i → s → Prop, L xs x ∧ (∀ y ys x, L (y :: ys) x → wp (b y x) (fun x' => L ys x') E) ∧ ∀ x, L [] x → wp (k x) Q E := by
  refine ⟨fun ys x => wp (loopN b ys x >>= k) Q E, h, fun y ys x hx => ?_, fun x hx => hx⟩
  have hx : wp (loopN b (y :: ys) x >>= k) Q E := hx
  rw [wp_bind] at hx
  have hx : wp (b y x >>= fun x' => loopN b ys x') (fun x => wp (k x) Q E) E := hx
  rw [wp_bind] at hx
  cases e : b y x with
  | ok z =>
    rw [e] at hx
    exact wp_bind.mpr hx
  | error e2 =>
    rw [e] at hx
    cases e2 <;> exact hx
theorem loopM_L {b : i → s → M (Fl s r)} {xs : List i} {x : s} {k : Fl s r → M a} (h : wp (loopM b xs x >>= k) Q E) :
    ∃ L : List i → s → Prop, L xs x ∧ (∀ y ys x, L (y :: ys) x → wp (b y x) (fun f => match f with
      | .nx x' => L ys x'
      | .rt z => wp (k (.rt z)) Q E) E) ∧ ∀ x, L [] x → wp (k (.nx x)) Q E := by
  refine ⟨fun ys x => wp (loopM b ys x >>= k) Q E, h, fun y ys x hx => ?_, fun x hx => hx⟩
  have hx : wp (loopM b (y :: ys) x >>= k) Q E := hx
  rw [wp_bind] at hx
  cases e : b y x with
  | ok z =>
    have hx : wp (b y x >>= fun f => match f with
      | .nx x' => loopM b ys x'
      | .rt z => .ok (.rt z)) (fun x => wp (k x) Q E) E := hx
    rw [e] at hx
    cases z with
    | nx z => exact wp_bind.mpr hx
    | rt z => exact hx
  | error e2 =>
    have hx : wp (b y x >>= fun f => match f with
      | .nx x' => loopM b ys x'
      | .rt z => .ok (.rt z)) (fun x => wp (k x) Q E) E := hx
    rw [e] at hx
    cases e2 <;> exact hx
theorem whileN_L {c : s → M Bool} {b : s → M s} {n : Nat} {x : s} {k : s → M a} (h : wp (whileN c b n x >>= k) Q E) :
    ∃ L : Nat → s → Prop, L n x ∧ ∀ m x, L m x → wp (c x) (fun t => if t = true then ∃ m', m' < m ∧ wp (b x) (fun x' => L m' x') E else wp (k x) Q E) E := by
  refine ⟨fun n x => wp (whileN c b n x >>= k) Q E, h, fun m x hx => ?_⟩
  cases m with
  | zero => exact hx.elim
  | succ m =>
    have hx : wp ((c x >>= fun t => if t = true then b x >>= fun x' => whileN c b m x' else .ok x) >>= k) Q E := hx
    rw [wp_bind, wp_bind] at hx
    cases e : c x with
    | error e2 => rw [e] at hx; cases e2 <;> exact hx
    | ok t =>
      rw [e] at hx
      cases t with
      | false => exact hx
      | true =>
        refine ⟨m, Nat.lt_succ_self m, ?_⟩
        have hx : wp (b x >>= fun x' => whileN c b m x') (fun x => wp (k x) Q E) E := hx
        rw [wp_bind] at hx
        cases e : b x with
        | error e2 => rw [e] at hx; cases e2 <;> exact hx
        | ok z =>
          rw [e] at hx
          exact wp_bind.mpr hx
theorem whileM_L {c : s → M Bool} {b : s → M (Fl s r)} {n : Nat} {x : s} {k : Fl s r → M a} (h : wp (whileM c b n x >>= k) Q E) :
    ∃ L : Nat → s → Prop, L n x ∧ ∀ m x, L m x → wp (c x) (fun t => if t = true then ∃ m', m' < m ∧ wp (b x) (fun f => match f with
      | .nx x' => L m' x'
      | .rt z => wp (k (.rt z)) Q E) E else wp (k (.nx x)) Q E) E := by
  refine ⟨fun n x => wp (whileM c b n x >>= k) Q E, h, fun m x hx => ?_⟩
  cases m with
  | zero => exact hx.elim
  | succ m =>
    have hx : wp ((c x >>= fun t => if t = true then b x >>= fun
      | .nx x' => whileM c b m x'
      | .rt z => .ok (.rt z)
    else .ok (.nx x)) >>= k) Q E := hx
    rw [wp_bind, wp_bind] at hx
    cases e : c x with
    | error e2 => rw [e] at hx; cases e2 <;> exact hx
    | ok t =>
      rw [e] at hx
      cases t with
      | false => exact hx
      | true =>
        refine ⟨m, Nat.lt_succ_self m, ?_⟩
        have hx : wp (b x >>= fun
          | .nx x' => whileM c b m x'
          | .rt z => .ok (.rt z)) (fun x => wp (k x) Q E) E := hx
        rw [wp_bind] at hx
        cases e : b x with
        | error e2 => rw [e] at hx; cases e2 <;> exact hx
        | ok z =>
          rw [e] at hx
          cases z with
          | nx z => exact wp_bind.mpr hx
          | rt z => exact hx
/-- a comprehension: what it has made so far, then the items left; no exception leaves it -/
def compX (b : i → s → M (Option c × s)) : List i → List c → s → M (List c × s)
  | [], acc, x => .ok (acc, x)
  | y :: ys, acc, x => nox (b y x) >>= fun p => compX b ys (match p.1 with
    | some z => acc ++ [z]
    | none => acc) p.2
/-- the list is short enough -/
def compS (b : i → s → M (Option c × s)) (xs : List i) (x : s) : M (List c × s) := chk (xs.length < 16777216) >>= fun _ => compX b xs [] x
theorem compX_L {b : i → s → M (Option c × s)} {k : List c × s → M a} : ∀ {xs : List i} {acc : List c} {x : s}, wp (compX b xs acc x >>= k) Q E →
    ∃ L : List i → List c → s → Prop, L xs acc x ∧ (∀ y ys acc x, L (y :: ys) acc x → wp (b y x) (fun p => L ys (match p.1 with
      | some z => acc ++ [z]
      | none => acc) p.2) (fun _ => False)) ∧ ∀ acc x, L [] acc x → wp (k (acc, x)) Q E := by
  intro xs acc x h
  refine ⟨fun ys acc x => wp (compX b ys acc x >>= k) Q E, h, fun y ys acc x hx => ?_, fun acc x hx => hx⟩
  have hx : wp ((nox (b y x) >>= fun p => compX b ys (match p.1 with
    | some z => acc ++ [z]
    | none => acc) p.2) >>= k) Q E := hx
  rw [wp_bind] at hx
  obtain ⟨p, e, hx⟩ := wp_nox hx
  rw [e]
  exact wp_bind.mpr hx
theorem compS_L {b : i → s → M (Option c × s)} {k : List c × s → M a} {xs : List i} {x : s} (h : wp (compS b xs x >>= k) Q E) : xs.length < 16777216 ∧
    ∃ L : List i → List c → s → Prop, L xs [] x ∧ (∀ y ys acc x, L (y :: ys) acc x → wp (b y x) (fun p => L ys (match p.1 with
      | some z => acc ++ [z]
      | none => acc) p.2) (fun _ => False)) ∧ ∀ acc x, L [] acc x → wp (k (acc, x)) Q E := by
  unfold compS at h
  rw [wp_bind] at h
  obtain ⟨h1, h2⟩ := wp_chk h
  exact ⟨h1, compX_L (wp_bind.mpr h2)⟩
end
theorem drop_at {a : Type} {xs : List a} {i : Nat} {x : a} (h : xs[i]? = some x) : xs.drop i = x :: xs.drop (i + 1) := by
  obtain ⟨h1, h2⟩ := List.getElem?_eq_some_iff.mp h
  rw [List.drop_eq_getElem_cons h1, h2]
theorem drop_end {a : Type} {xs : List a} {vs : List V} (h : vs.length = xs.length) : xs.drop vs.length = [] := by
  rw [h, List.drop_length]

/-! ### a def as it stands -/
structure Df (K : PySem.W.Frag) (mg : Str → Option Value) (x qual : Str) (st : Stmt) (ps : List Str) : Prop where
  ex : ∃ f fd, Fun K x qual st f fd ∧ mg x = some (.ref f) ∧ Binds K fd ps []
structure Ca (P : Program) (w : World) (K : PySem.W.Frag) (mg : Str → Option Value) (base : Heap) (x : Str) (k : Nat) (ps : List Str) (sp : Sp) : Prop where
  ex : ∃ f fd, FnOk P w K mg base (L2.CX P w) k f fd ps sp ∧ mg x = some (.ref f) ∧ PySem.W.keepIn K (.ref f) = true ∧ Binds K fd ps []
/-- an exception class of the program -/
structure Xc (K : PySem.W.Frag) (mg : Str → Option Value) (x : Str) (C : Addr) : Prop where
  g : mg x = some (.ref C)
  x : PySem.W.excIn K C [.type "ValueError", .type "Exception", .type "BaseException", .type "object"] "ValueError.__new__" = true
  k : PySem.W.keepIn K (.ref C) = true
  b : PySem.W.subIn K (.ref C) (.type "BaseException") = some true
  t : PySem.W.typeIn K (.ref C) = some (.type "type")
section
variable {P : Program} {w : World} {K : PySem.W.Frag} {mg : Str → Option Value} {base : Heap}
theorem Ca.mk' {x qual : Str} {st : Stmt} {N ps : List Str} {k : Nat} {sp : Sp} (D : Df K mg x qual st ps) (S : FnScope N ps (defScope st)) (len : ∀ vs H Q E, sp vs H Q E → vs.length = ps.length)
    (hbody : ∀ (qual' : Str) (f : Addr) (cdv : Value) (A : Around) (outer : List Env) (s : Shared) (H : Hp) (vs : List V) (Q : VK) (E : XK), Room k (A.deeper (envOfC qual (defScope st) s.heap.objs.size f cdv)) → sp vs H Q E →
      ∃ t, PSs (cxOf (L2.CX P w) P w K mg base N qual (defScope st) f cdv A outer s H E) (defBody st) t ∧ t { nx := fun _ H' => Q .non H', rt := Q } (start N vs) H) : Ca P w K mg base x (k + 1) ps sp := by
  obtain ⟨f, fd, F, m, b⟩ := D.ex
  exact ⟨f, fd, F.okX S len fun cdv A outer s H vs Q E hr h => hbody qual f cdv A outer s H vs Q E hr h, m, F.kp, b⟩
end
section
variable {X : Cx}
/-- len of a list or tuple -/
def rLenT : List V → Hp → VK → Prop := fun vs H Q => ∃ (l : Addr) (ws : List V) (n : Nat), vs = [.ref l] ∧ (H l = some (.lst ws) ∨ H l = some (.tup ws)) ∧ ws.length = n ∧ Q (.int n) H
theorem call_lenT : CallR X (.builtin "len") rLenT := by
  intro pins s σ H vs us Q I r h
  obtain ⟨l, ws, n, e, hl, rfl, k⟩ := h
  refine call_len_seq pins s σ H vs us Q I r ⟨l, ws, e, ?_, k⟩
  rcases hl with hl | hl
  · exact .inl (SqL.of hl)
  · exact .inr (SqT.of hl)
end

section
variable {Z : Ent} {F F' H H' : Hp} {cs : List (Addr × HO)} {p a : Addr} {o o' : HO}
theorem Ow.putE (O : Ow Z F cs H) (h : H p = none) (o : HO) : ∃ F', Ow Z F' cs (upd H p o) ∧ Same F F' ∧ F' p = some o := ⟨_, O.put h, O.putS h, upd_same⟩
theorem Ow.was (O : Ow Z F cs H) (h : H p = none) : Z.H p = none := by
  cases q : Z.H p with
  | none => rfl
  | some u => exact absurd h (O.g.t p (by rw [q]; simp))
theorem Ow.frzE (O : Ow Z F cs H) (i : Nat) (e : cs[i]? = some (a, o)) (hz : Z.H a = none) : ∃ F', Ow Z F' (cs.eraseIdx i) H ∧ Same F F' ∧ F' a = some o := ⟨_, O.frz i e hz, O.frzS i e, upd_same⟩
/-- a cell that a call made -/
theorem Ow.got (O : Ow Z F cs H) (O' : Ow Z F' cs' H') (hk : cs'.map (·.1) = cs.map (·.1)) (hn : H p = none) (hf : F' p = none) (h : H' p = some o) (ht : noTup o = true := by rfl) : Ow Z F' ((p, o) :: cs') H' :=
  O'.add O (fun c hc => by rw [← hk]; exact List.mem_map.mpr ⟨c, hc, rfl⟩) hn hf h ht
end
theorem rangeL_get0 {n : Int} {i : Nat} (h : i < n.toNat) : (rangeL 0 n).drop i = (0 + (i : Int)) :: (rangeL 0 n).drop (i + 1) := rangeL_get (by simpa using h)
theorem rangeL_end0 {n : Int} : (rangeL 0 n).drop n.toNat = [] := by
  have := rangeL_end (lo := 0) (hi := n)
  simpa using this
theorem iteD {c A B : Prop} [Decidable c] (h1 : c → A) (h2 : ¬ c → B) : if decide c = true then A else B := by
  by_cases h : c
  · rw [decide_eq_true h, if_pos rfl]; exact h1 h
  · rw [decide_eq_false h, if_neg Bool.false_ne_true]; exact h2 h
theorem iteN {c A B : Prop} [Decidable c] (h1 : c → B) (h2 : ¬ c → A) : if (!decide c) = true then A else B := by
  by_cases h : c
  · rw [decide_eq_true h]; exact h1 h
  · rw [decide_eq_false h]; exact h2 h
theorem iteB {b : Bool} {A B : Prop} (h1 : b = true → A) (h2 : ¬ b = true → B) : if b = true then A else B := by
  cases b with
  | true => exact h1 rfl
  | false => exact h2 Bool.false_ne_true
theorem iteBN {b : Bool} {A B : Prop} (h1 : b = true → B) (h2 : ¬ b = true → A) : if (!b) = true then A else B := by
  cases b with
  | true => exact h1 rfl
  | false => exact h2 Bool.false_ne_true
theorem iteNT {A B : Prop} (h : B) : if (!true) = true then A else B := h
theorem iteNF {A B : Prop} (h : A) : if (!false) = true then A else B := h
theorem wp_if {a : Type} {Q : a → Prop} {E : String → Prop} {c : Prop} [Decidable c] {x y : M a} (h : wp (if c then x else y) Q E) (hc : c) : wp x Q E := by
  rw [if_pos hc] at h
  exact h
theorem wp_el {a : Type} {Q : a → Prop} {E : String → Prop} {c : Prop} [Decidable c] {x y : M a} (h : wp (if c then x else y) Q E) (hc : ¬ c) : wp y Q E := by
  rw [if_neg hc] at h
  exact h

theorem hu128_of {A : Around} {k : Nat} (hr : Room k A) : A.units + 128 < cLine := by have := hr.un; omega
def cutL {a : Type} (xs : List a) (lo hi : Option Int) : List a := (xs.drop (HT.sIx xs.length 0 lo)).take (HT.sIx xs.length xs.length hi - HT.sIx xs.length 0 lo)
theorem RL.cutL {a : Type} [Py a] {H : Hp} {vs : List V} {xs : List a} (h : RL H vs xs) (lo hi : Option Int) : RL H (cutV vs lo hi) (PG.cutL xs lo hi) := h.cut lo hi
theorem RL.last {a : Type} [Py a] {H : Hp} {vs : List V} {xs : List a} {y : a} (h : RL H vs xs) (e : xs[xs.length - 1]? = some y) : ∃ w, vs[vs.length - 1]? = some w ∧ R H w y := by
  obtain ⟨w, e1, h1⟩ := h.get e
  exact ⟨w, by rw [h.len]; exact e1, h1⟩

theorem okR.rg1 {n : Int} (h : okR n) : RgOk 0 n := by
  obtain ⟨a, b⟩ := h
  exact ⟨by omega, by omega, by omega, by omega, by omega⟩
theorem rgV_eq (a b : Int) : rgV a b = (rangeL a b).map V.int := by
  unfold rgV rangeL
  rw [List.map_map]
  rfl
theorem RL.rg {H : Hp} {a b : Int} : RL H (rgV a b) (rangeL a b) := by
  rw [rgV_eq]
  exact RL.of_ints

theorem comp_len {b : Type} {w vs : List V} {xs : List b} {i : Nat} {x : V} (la : w.length ≤ i) (hi : vs[i]? = some x) (hl : vs.length = xs.length) (c : xs.length < 16777216) : w.length < sizeLine := by
  have := (List.getElem?_eq_some_iff.mp hi).1
  exact lt_line (by omega)
theorem rangeL_length (lo hi : Int) : (rangeL lo hi).length = (hi - lo).toNat := by
  unfold rangeL
  simp
theorem comp_lenR {w : List V} {lo hi : Int} {i n : Nat} (la : w.length ≤ i) (h : i < n) (e : (hi - lo).toNat = n) (c : (rangeL lo hi).length < 16777216) : w.length < sizeLine := by
  rw [rangeL_length] at c
  exact lt_line (by omega)
theorem tYes_ {σ : L2.St} {H : Hp} {Q : Bool → Hp → Prop} (h : Q true H) : tYes σ H Q := h

/-! lists of own lists of ints -/
abbrev LC := Addr × List Int
def lcell (c : LC) : Addr × HO := (c.1, .lst (c.2.map V.int))
theorem Ow.perm {Z : Ent} {F H : Hp} {cs cs' : List (Addr × HO)} (O : Ow Z F cs H) (h : cs.Perm cs') : Ow Z F cs' H where
  g := O.g
  cf := fun c hc => O.cf c (h.mem_iff.mpr hc)
  ch := fun c hc => O.ch c (h.mem_iff.mpr hc)
  nd := (h.map _).nodup_iff.mp O.nd
  ca := fun c hc => O.ca c (h.mem_iff.mpr hc)
  nt := fun c hc => O.nt c (h.mem_iff.mpr hc)
theorem Ow.sub {Z : Ent} {F H : Hp} {cs cs' : List (Addr × HO)} (O : Ow Z F cs H) (h : cs'.Sublist cs) : Ow Z F cs' H where
  g := O.g
  cf := fun c hc => O.cf c (h.subset hc)
  ch := fun c hc => O.ch c (h.subset hc)
  nd := O.nd.sublist (h.map _)
  ca := fun c hc => O.ca c (h.subset hc)
  nt := fun c hc => O.nt c (h.subset hc)
/-- a new list of new lists -/
structure OwnLL (H F' H' : Hp) (p : Addr) (ps : List LC) : Prop where
  pn : H p = none
  pf : F' p = none
  ph : H' p = some (.lst (ps.map fun c => V.ref c.1))
  qn : ∀ c ∈ ps, H c.1 = none
  qf : ∀ c ∈ ps, F' c.1 = none
  qh : ∀ c ∈ ps, H' c.1 = some (.lst (c.2.map V.int))
  nd : (p :: ps.map (·.1)).Nodup
theorem OwnLL.frz {F H F' H' : Hp} {p : Addr} {ps : List LC} {as : List Addr} (G : Gr as F H F' H') (L : OwnLL H F' H' p ps) :
    ∃ F2, Gr as F H F2 H' ∧ F2 p = none ∧ RL F2 (ps.map fun c => V.ref c.1) (ps.map (·.2)) := by
  refine ⟨fun b => if b ∈ ps.map (·.1) then H' b else F' b, ⟨fun b o e => ?_, fun b o e => ?_, G.k, G.t, fun b e => ?_, G.u⟩, ?_, ?_⟩
  · have h1 := G.f b o e
    by_cases hb : b ∈ ps.map (·.1)
    · obtain ⟨c, hc, rfl⟩ := List.mem_map.mp hb
      rw [L.qf c hc] at h1
      cases h1
    · show (if b ∈ ps.map (·.1) then H' b else F' b) = some o
      rw [if_neg hb]
      exact h1
  · have e : (if b ∈ ps.map (·.1) then H' b else F' b) = some o := e
    by_cases hb : b ∈ ps.map (·.1)
    · rw [if_pos hb] at e
      exact e
    · rw [if_neg hb] at e
      exact G.s b o e
  · show (if b ∈ ps.map (·.1) then H' b else F' b) = F b ∨ _
    have hb : b ∉ ps.map (·.1) := fun hb => by
      obtain ⟨c, hc, rfl⟩ := List.mem_map.mp hb
      exact e (L.qn c hc)
    rw [if_neg hb]
    exact G.n b e
  · show (if p ∈ ps.map (·.1) then H' p else F' p) = none
    rw [if_neg (List.nodup_cons.mp L.nd).1]
    exact L.pf
  · have all : ∀ l : List LC, (∀ c ∈ l, c ∈ ps) → RL (fun b => if b ∈ ps.map (·.1) then H' b else F' b) (l.map fun c => V.ref c.1) (l.map (·.2)) := by
      intro l
      induction l with
      | nil => intro _; exact RL.nil
      | cons c l ih =>
        intro h
        have hc := h c List.mem_cons_self
        refine RL.cons (R.lst (vs := c.2.map V.int) ?_ RL.of_ints) (ih fun d hd => h d (List.mem_cons_of_mem _ hd))
        show (if c.1 ∈ ps.map (·.1) then H' c.1 else F' c.1) = _
        rw [if_pos (List.mem_map.mpr ⟨c, hc, rfl⟩)]
        exact L.qh c hc
    exact all ps fun _ h => h
theorem FnOk.impC {P : Program} {w : World} {K : PySem.W.Frag} {mg : Str → Option Value} {base : Heap} {x : Str} {k : Nat} {ps : List Str} {sp sp' : Sp} (F : Ca P w K mg base x k ps sp) (h : ∀ vs H Q E, sp' vs H Q E → sp vs H Q E) : Ca P w K mg base x k ps sp' := by
  obtain ⟨f, fd, G, m, kp, b⟩ := F.ex
  exact ⟨f, fd, G.imp h, m, kp, b⟩
theorem wp_mono {a : Type} {Q Q' : a → Prop} {E : String → Prop} {m : M a} (h : wp m Q E) (f : ∀ r, Q r → Q' r) : wp m Q' E := wp_tail h (fun r _ q => f r q) fun _ e => e
/-- a scalar call that reads a cell: the cell is as it was, and nothing of the call is kept -/
theorem Ow.borrow {Z : Ent} {F F1 F' H H' : Hp} {cs : List (Addr × HO)} (O : Ow Z F cs H) (s1 : Same F F1) (g : Gr [] F1 H F' H') : Ow Z F cs H' where
  g := ⟨O.g.f, (s1.trans g.f).trans g.s, fun b o hb e => g.k b o (fun h => nomatch h) (O.g.k b o hb e), fun b e => g.t b (O.g.t b e), O.g.n, fun b xs e => by
    rcases g.u b xs e with z | z
    · refine .inl ?_
      cases q : Z.H b with
      | none => rfl
      | some u => exact absurd z (O.g.t b (by rw [q]; simp))
    · exact O.g.u b xs z⟩
  cf := O.cf
  ch := fun c hc => g.k _ _ (fun h => nomatch h) (O.ch c hc)
  nd := O.nd
  ca := O.ca
  nt := O.nt
theorem Ow.lend {Z : Ent} {F H : Hp} {cs : List (Addr × HO)} {a : Addr} {o : HO} (O : Ow Z F cs H) (i : Nat) (e : cs[i]? = some (a, o)) : ∃ F1, Same F F1 ∧ Pre F1 [] H ∧ F1 a = some o := by
  have m := List.mem_of_getElem? e
  refine ⟨upd F a o, Same.new (O.cf _ m), ⟨fun b u q => ?_, (fun _ h => nomatch h), (fun _ h => nomatch h), List.nodup_nil, fun _ h => nomatch h⟩, upd_same⟩
  by_cases hb : b = a
  · subst hb; rw [upd_same] at q; rw [← q]; exact O.ch _ m
  · rw [upd_ne hb] at q; exact O.s b u q

abbrev lrefs (ps : List LC) : List V := ps.map fun (c : LC) => V.ref c.1

def ret {a : Type} (x : a) : M a := .ok x
theorem wp_ret {a b : Type} {Q : a → Prop} {E : String → Prop} {x : b} {k : b → M a} (h : wp (ret x >>= k) Q E) : ∃ y, y = x ∧ wp (k y) Q E := ⟨x, rfl, h⟩

/-- tuples that stand may be read -/
theorem Ow.tups {Z : Ent} {F H : Hp} {cs : List (Addr × HO)} (O : Ow Z F cs H) (bs : List Addr) (h : ∀ b ∈ bs, ∃ xs, H b = some (.tup xs)) : ∃ F', Ow Z F' cs H ∧ Same F F' ∧ ∀ b ∈ bs, F' b = H b := by
  refine ⟨fun b => if b ∈ bs then H b else F b, ⟨⟨fun b o e => ?_, fun b o e => ?_, O.g.k, O.g.t, fun b e => ?_, O.g.u⟩, fun c hc => ?_, O.ch, O.nd, O.ca, O.nt⟩, fun b o e => ?_, fun b hb => if_pos hb⟩
  · have h1 := O.g.f b o e
    show (if b ∈ bs then H b else F b) = some o
    by_cases hb : b ∈ bs
    · rw [if_pos hb]; exact O.s b o h1
    · rw [if_neg hb]; exact h1
  · have e : (if b ∈ bs then H b else F b) = some o := e
    by_cases hb : b ∈ bs
    · rw [if_pos hb] at e; exact e
    · rw [if_neg hb] at e; exact O.s b o e
  · show (if b ∈ bs then H b else F b) = Z.F b ∨ _
    by_cases hb : b ∈ bs
    · obtain ⟨xs, hx⟩ := h b hb
      rcases O.g.u b xs hx with z | z
      · exact absurd z e
      · exact .inr ⟨xs, z⟩
    · rw [if_neg hb]; exact O.g.n b e
  · show (if c.1 ∈ bs then H c.1 else F c.1) = none
    by_cases hb : c.1 ∈ bs
    · obtain ⟨xs, hx⟩ := h c.1 hb
      have hn := O.nt c hc
      rw [O.ch c hc] at hx
      rw [Option.some.inj hx] at hn
      cases hn
    · rw [if_neg hb]; exact O.cf c hc
  · show (if b ∈ bs then H b else F b) = some o
    by_cases hb : b ∈ bs
    · rw [if_pos hb]; exact O.s b o e
    · rw [if_neg hb]; exact e
end PG

set_option Elab.async false
set_option linter.all false
set_option maxRecDepth 100000
set_option maxHeartbeats 4000000
namespace PG
open PySem PySem.Spec PyProof.Rows L2
open PySem.W (T3 T4 Datum DatumOrd Holds HoldAll EachIs)

theorem u1_of {n : Nat} (h : n + 64 < cLine) : n + 1 < cLine := Nat.lt_of_le_of_lt (Nat.add_le_add_left (by decide) _) h
/-! ### dicts: what stands for a key -/
class DK (κ : Type) (K' : outParam Type) where
  kk : κ → K'
  inj : ∀ a b, kk a = kk b → a = b
instance : DK Int Key := ⟨Sum.inl, fun _ _ h => Sum.inl.inj h⟩
instance : DK Str Key := ⟨Sum.inr, fun _ _ h => Sum.inr.inj h⟩
instance : DK (Int × Int) (List Key) := ⟨fun p => [.inl p.1, .inl p.2], fun a b h => by
  injection h with h1 h2
  injection h2 with h2 _
  exact Prod.ext (Sum.inl.inj h1) (Sum.inl.inj h2)⟩
section
variable {κ K' β : Type} [DK κ K'] [Py β]
inductive RD (F : Hp) : List (K' × V) → List (κ × β) → Prop
  | nil : RD F [] []
  | cons {k : κ} {v : V} {y : β} {kvs : List (K' × V)} {xs : List (κ × β)} : R F v y → RD F kvs xs → RD F ((DK.kk k, v) :: kvs) ((k, y) :: xs)
variable {F F' : Hp}
theorem RD.mono {kvs : List (K' × V)} {xs : List (κ × β)} (h : RD F kvs xs) (s : Same F F') : RD F' kvs xs := by
  induction h with
  | nil => exact .nil
  | cons h _ ih => exact .cons (h.mono s) ih
theorem RD.len {kvs : List (K' × V)} {xs : List (κ × β)} (h : RD F kvs xs) : kvs.length = xs.length := by
  induction h with
  | nil => rfl
  | cons h _ ih => rw [List.length_cons, List.length_cons, ih]
theorem RD.keys {kvs : List (K' × V)} {xs : List (κ × β)} (h : RD F kvs xs) : kvs.map (·.1) = (xs.map (·.1)).map DK.kk := by
  induction h with
  | nil => rfl
  | cons h _ ih => rw [List.map_cons, List.map_cons, List.map_cons, ih]
end
section
variable {κ K' β : Type} [DK κ K'] [DecidableEq κ] [DecidableEq K'] [Py β] {F F' : Hp}
def dGet (xs : List (κ × β)) (k : κ) : Option β := (xs.find? fun p => decide (p.1 = k)).map (·.2)
def dPut (xs : List (κ × β)) (k : κ) (y : β) : List (κ × β) :=
  if (xs.any fun p => decide (p.1 = k)) = true then xs.map (fun p => if p.1 = k then (p.1, y) else p) else xs ++ [(k, y)]
def dHas (xs : List (κ × β)) (k : κ) : Bool := (dGet xs k).isSome
theorem kk_dec {a b : κ} : decide ((DK.kk a : K') = DK.kk b) = decide (a = b) := by
  by_cases h : a = b
  · subst h; simp
  · rw [decide_eq_false h, decide_eq_false fun z => h (DK.inj a b z)]
theorem dGet_pos {p : κ × β} {r : List (κ × β)} {k : κ} (e : p.1 = k) : dGet (p :: r) k = some p.2 := by simp [dGet, List.find?_cons, e]
theorem dGet_neg {p : κ × β} {r : List (κ × β)} {k : κ} (e : ¬ p.1 = k) : dGet (p :: r) k = dGet r k := by simp [dGet, List.find?_cons, e]
theorem RD.get {kvs : List (K' × V)} {xs : List (κ × β)} (h : RD F kvs xs) (k : κ) :
    (dGet xs k = none ∧ valV kvs (DK.kk k) = none) ∨ ∃ y v, dGet xs k = some y ∧ valV kvs (DK.kk k) = some v ∧ R F v y := by
  induction h with
  | nil => exact .inl ⟨rfl, rfl⟩
  | @cons j v y kvs xs h hs ih =>
    by_cases e : j = k
    · exact .inr ⟨y, v, dGet_pos e, valV_pos (by rw [e]), h⟩
    · rw [dGet_neg (p := (j, y)) e, valV_neg (fun z => e (DK.inj j k z))]
      exact ih
theorem RD.some {kvs : List (K' × V)} {xs : List (κ × β)} (h : RD F kvs xs) {k : κ} {y : β} (e : dGet xs k = some y) : ∃ v, valV kvs (DK.kk k) = some v ∧ R F v y := by
  rcases h.get k with ⟨a, _⟩ | ⟨y', v, a, b, c⟩
  · rw [e] at a; cases a
  · rw [e] at a; cases a; exact ⟨v, b, c⟩
theorem RD.is {kvs : List (K' × V)} {xs : List (κ × β)} (h : RD F kvs xs) (k : κ) : (valV kvs (DK.kk k)).isSome = dHas xs k := by
  unfold dHas
  rcases h.get k with ⟨a, b⟩ | ⟨y', v, a, b, c⟩
  · rw [a, b]; rfl
  · rw [a, b]; rfl
theorem RD.map {kvs : List (K' × V)} {xs : List (κ × β)} (h : RD F kvs xs) (k : κ) {v : V} {y : β} (hv : R F v y) :
    RD F (kvs.map fun kv => if kv.1 = DK.kk k then (kv.1, v) else kv) (xs.map fun p => if p.1 = k then (p.1, y) else p) := by
  induction h with
  | nil => exact .nil
  | @cons j u z kvs xs h hs ih =>
    rw [List.map_cons, List.map_cons]
    by_cases e : j = k
    · rw [if_pos e, if_pos (show (DK.kk j, u).1 = DK.kk k by rw [e])]
      exact .cons hv ih
    · rw [if_neg e, if_neg (show ¬ (DK.kk j, u).1 = DK.kk k from fun z => e (DK.inj j k z))]
      exact .cons h ih
theorem RD.snoc {kvs : List (K' × V)} {xs : List (κ × β)} (h : RD F kvs xs) (k : κ) {v : V} {y : β} (hv : R F v y) : RD F (kvs ++ [(DK.kk k, v)]) (xs ++ [(k, y)]) := by
  induction h with
  | nil => exact .cons hv .nil
  | cons h _ ih => exact .cons h ih
theorem RD.any {kvs : List (K' × V)} {xs : List (κ × β)} (h : RD F kvs xs) (k : κ) : (kvs.any fun kv => decide (kv.1 = DK.kk k)) = (xs.any fun p => decide (p.1 = k)) := by
  induction h with
  | nil => rfl
  | @cons j u z kvs xs h hs ih => rw [List.any_cons, List.any_cons, ih, kk_dec]
theorem RD.put {kvs : List (K' × V)} {xs : List (κ × β)} (h : RD F kvs xs) (k : κ) {v : V} {y : β} (hv : R F v y) : RD F (putK kvs (DK.kk k) v) (dPut xs k y) := by
  unfold putK dPut
  rw [h.any k]
  by_cases e : (xs.any fun p => decide (p.1 = k)) = true
  · rw [if_pos e, if_pos e]; exact h.map k hv
  · rw [if_neg e, if_neg e]; exact h.snoc k hv
def putD (xs : List (κ × β)) (k : κ) (y : β) : M (List (κ × β)) := if xs.length < 16777216 then .ok (dPut xs k y) else bad
theorem wp_putD {a : Type} {Q : a → Prop} {E : String → Prop} {xs : List (κ × β)} {j : κ} {y : β} {k : List (κ × β) → M a} (h : wp (putD xs j y >>= k) Q E) : xs.length < sizeLine ∧ wp (k (dPut xs j y)) Q E := by
  unfold putD at h
  by_cases hl : xs.length < 16777216
  · rw [if_pos hl] at h
    exact ⟨lt_line hl, h⟩
  · rw [if_neg hl] at h
    exact h.elim
end
/-- a dict that is read alone -/
class DO (K' : Type) where
  ho : List (K' × V) → HO
instance : DO Key := ⟨.dK⟩
instance : DO (List Key) := ⟨.dT⟩
section
variable {κ K' β : Type} [DK κ K'] [Py β] [DO K'] {F F' H : Hp} {v : V} {a b : Addr}
def RDv (F : Hp) (v : V) (xs : List (κ × β)) : Prop := ∃ (a : Addr) (kvs : List (K' × V)), v = .ref a ∧ F a = some (DO.ho kvs) ∧ RD F kvs xs
theorem RDv.mono {xs : List (κ × β)} (h : RDv F v xs) (s : Same F F') : RDv F' v xs := by
  obtain ⟨a, kvs, e, h1, h2⟩ := h
  exact ⟨a, kvs, e, s _ _ h1, h2.mono s⟩
theorem RDv.mk {xs : List (κ × β)} {kvs : List (K' × V)} (h : F a = some (DO.ho kvs)) (hr : RD F kvs xs) : RDv F (.ref a) xs := ⟨a, kvs, rfl, h, hr⟩
end
section
variable {β : Type} [Py β] {F H : Hp} {a b : Addr}
theorem dget_T {kvs : List (List Key × V)} {i j : Int} {v : V} (e : H a = some (.dT kvs)) (eb : H b = some (.tup [.int i, .int j])) (hv : valV kvs (DK.kk (i, j)) = some v) : DGet H a (.ref b) (some v) := by
  rw [← hv]
  exact DGet.t (k := [.inl i, .inl j]) e eb
theorem dget_I {kvs : List (Key × V)} {i : Int} {v : V} (e : H a = some (.dK kvs)) (hv : valV kvs (DK.kk i) = some v) : DGet H a (.int i) (some v) := by
  rw [← hv]
  exact DGet.k (k := .inl i) e
theorem dget_S {kvs : List (Key × V)} {i : Str} {v : V} (e : H a = some (.dK kvs)) (hv : valV kvs (DK.kk i) = some v) : DGet H a (.str i) (some v) := by
  rw [← hv]
  exact DGet.k (k := .inr i) e
theorem din_T {kvs : List (List Key × V)} {i j : Int} {xs : List ((Int × Int) × β)} (e : H a = some (.dT kvs)) (eb : H b = some (.tup [.int i, .int j])) (hr : RD F kvs xs) : ∃ o, DGet H a (.ref b) o ∧ o.isSome = dHas xs (i, j) :=
  ⟨_, DGet.t (k := [.inl i, .inl j]) e eb, hr.is (i, j)⟩
theorem din_I {kvs : List (Key × V)} {i : Int} {xs : List (Int × β)} (e : H a = some (.dK kvs)) (hr : RD F kvs xs) : ∃ o, DGet H a (.int i) o ∧ o.isSome = dHas xs i :=
  ⟨_, DGet.k (k := .inl i) e, hr.is i⟩
theorem din_S {kvs : List (Key × V)} {i : Str} {xs : List (Str × β)} (e : H a = some (.dK kvs)) (hr : RD F kvs xs) : ∃ o, DGet H a (.str i) o ∧ o.isSome = dHas xs i :=
  ⟨_, DGet.k (k := .inr i) e, hr.is i⟩
theorem dput_T {kvs : List (List Key × V)} {i j : Int} {v : V} (e : H a = some (.dT kvs)) (eb : H b = some (.tup [.int i, .int j])) (hl : kvs.length < sizeLine) : DPut H a (.ref b) v (upd H a (.dT (putK kvs (DK.kk (i, j)) v))) := DPut.t (k := [.inl i, .inl j]) e eb hl
theorem dput_I {kvs : List (Key × V)} {i : Int} {v : V} (e : H a = some (.dK kvs)) (hl : kvs.length < sizeLine) : DPut H a (.int i) v (upd H a (.dK (putK kvs (DK.kk i) v))) := DPut.k (k := .inl i) e hl
theorem dput_S {kvs : List (Key × V)} {i : Str} {v : V} (e : H a = some (.dK kvs)) (hl : kvs.length < sizeLine) : DPut H a (.str i) v (upd H a (.dK (putK kvs (DK.kk i) v))) := DPut.k (k := .inr i) e hl
end
/-! sorted(d), the keys pairs of whole numbers -/
theorem keys_tups {H : Hp} {kvs : List (List Key × V)} {bs : List Addr} (h : IsKeys H kvs bs) : ∀ b ∈ bs, ∃ xs, H b = some (.tup xs) := by
  unfold IsKeys at h
  induction h with
  | nil => intro b hb; simp at hb
  | cons h t ih =>
    intro c hc
    rcases List.mem_cons.mp hc with rfl | hc
    · exact ⟨_, h⟩
    · exact ih c hc
theorem keys_rl {H : Hp} {kvs : List (List Key × V)} {bs : List Addr} (h : IsKeys H kvs bs) : ∀ {ks : List (Int × Int)}, kvs.map (·.1) = ks.map DK.kk → RL H (bs.map V.ref) ks := by
  unfold IsKeys at h
  induction h with
  | nil =>
    intro ks e
    cases ks with
    | nil => exact RL.nil
    | cons k ks => simp at e
  | cons h t ih =>
    intro ks e
    cases ks with
    | nil => simp at e
    | cons k ks =>
      rw [List.map_cons, List.map_cons] at e
      injection e with e1 e2
      rw [e1] at h
      exact RL.cons (R.t2 h R.int R.int) (ih e2)
theorem keys_in {H F : Hp} {kvs : List (List Key × V)} {bs : List Addr} {ks : List (Int × Int)} (h : IsKeys H kvs bs) (hf : ∀ b ∈ bs, F b = H b) (e : kvs.map (·.1) = ks.map DK.kk) : RL F (bs.map V.ref) ks := by
  refine keys_rl ?_ e
  unfold IsKeys at h ⊢
  clear e
  induction h with
  | nil => exact .nil
  | @cons x b xs bs h t ih =>
    refine .cons ?_ (ih fun c hc => hf c (List.mem_cons_of_mem _ hc))
    rw [hf b List.mem_cons_self]
    exact h
section
variable {X : Cx}
theorem cr_sortedDT (hcalm : X.calm = true) (hu : X.A.units + 128 < cLine) : CallR X (.builtin "sorted") (fun xs H Q => ∃ (d : Addr) (kvs : List (List Key × V)) (ks : List (Int × Int)), xs = [.ref d] ∧ H d = some (.dT kvs) ∧ kvs.map (·.1) = ks.map DK.kk ∧
    ∀ (bs : List Addr) (p : Addr), IsKeys H kvs bs → H p = none → Q (.ref p) (upd H p (.lst (sortV (bs.map V.ref) ks)))) := by
  intro pins s σ H xs us Q I r q
  obtain ⟨d, kvs, ks', ex, hd, hks, q⟩ := q
  subst ex
  obtain ⟨u, eu, rx⟩ := vals1 r
  subst eu
  cases rx
  obtain ⟨z, hs, ks, pr, o, es, ep, ho, hx, hdt, he, hn⟩ := (show ObjOk X.prog X.w H s.heap d (.dT kvs) from I.hok d _ hd)
  have l1 : es.size = ks.length := size_of_entries he
  have l2 : kvs.length = ks.length := Paired.length pr
  refine Calls.call_function_entry PyProof.Rows.kind_sorted PyProof.Rows.plain_sorted PyProof.Rows.entry_sorted (PyProof.Rows.args_sorted1 _) ?_
  unfold Builtin.«sorted»
  refine wpAny_bind (m := checkCount "sorted" 1 1 _) (wpAny_pure ?_)
  refine wpAny_bind (PySem.W.kdu_collect (A := X.A.in1) (kdl_raw hs hx hdt) (I.ok.hd hcalm) ho (by omega) fun h' tk acc kp it => ?_)
  have ea : acc.toList = ks.map fun x => Value.ref x.2.1 := by
    have hl : acc.toList.length = ks.length := by rw [Array.length_toList, it.1]; exact l1
    apply List.ext_getElem?
    intro j
    rw [List.getElem?_map]
    cases hj : acc.toList[j]? with
    | none =>
      have h1 := List.getElem?_eq_none_iff.mp hj
      rw [List.getElem?_eq_none (by omega)]
      all_goals rfl
    | some v =>
      obtain ⟨en, hen, hv⟩ := it.2 j v (by rw [← Array.getElem?_toList]; exact hj)
      have qe := entry_at he j
      rw [hen] at qe
      cases hb : ks[j]? with
      | none =>
        rw [hb] at qe
        exact nomatch (show some en = none from qe)
      | some b =>
        rw [hb] at qe
        have e2 : en = entryOfKey (tupleKind (mixKind X.prog X.w)) b := Option.some.inj qe
        rw [hv, e2]
        all_goals rfl
  have eb : acc.toList = (ks.map fun (x : List Key × Addr × Value) => x.2.1).map Value.ref := by rw [ea, List.map_map]; all_goals rfl
  have rv : Vals ((ks.map fun (x : List Key × Addr × Value) => x.2.1).map V.ref) acc.toList := by rw [eb]; exact vals_refs _
  have hik : IsKeys H kvs (ks.map fun (x : List Key × Addr × Value) => x.2.1) := isKeys_of pr
  have hrl := keys_rl hik hks
  have hlen : ((ks.map fun (x : List Key × Addr × Value) => x.2.1).map V.ref).length = ks'.length := hrl.len
  have hal : acc.toList.length = ks.length := by rw [ea, List.length_map]
  have I1 : Inv X pins σ H { s with heap := h', toks := tk } := I.kept kp
  have hE := each_pairs hrl rv
  have hR : EachIs (fun u (p : V × (Int × Int)) => ∃ as, PySem.Reads h' u (Datum.toD p.2) as) acc.toList (((ks.map fun (x : List Key × Addr × Value) => x.2.1).map V.ref).zip ks') := each_imp (fun u p hp => hp.2.holds I1 hp.1) hE
  have hoL : (h'.push (seqObj "list" acc.toList.toArray 0)).get? h'.objs.size = some (seqObj "list" acc.toList.toArray 0) := Heap.get?_push_size _ rfl
  have hz : acc.toList.length ≤ sizeLine := by rw [hal]; omega
  refine wpAny_bind (wpAny_newList ?_ hz)
  show wpAny _ _ _ _ _ { s with heap := h'.push (seqObj "list" acc.toList.toArray 0), toks := tk }
  have er' : EachIs (fun v (p : V × (Int × Int)) => ∃ as, PySem.Reads (PySem.W.sortingHeap (h'.push (seqObj "list" acc.toList.toArray 0)) h'.objs.size acc.toList) v (Datum.toD p.2) as) acc.toList (((ks.map fun (x : List Key × Addr × Value) => x.2.1).map V.ref).zip ks') :=
    hR.mono fun _ _ ⟨as, r⟩ => ⟨as, PyProof.Rows.Reads.keeps (fun b o e => PySem.W.sortingHeap_old (Nat.ne_of_lt (Heap.lt_size e)) (Heap.get?_push_of_some _ e)) r⟩
  have hal2 : PySem.W.AllAlike ((((ks.map fun (x : List Key × Addr × Value) => x.2.1).map V.ref).zip ks').map fun p => Datum.toD p.2) := PySem.W.AllAlike.of fun p q => DatumOrd.alike p.2 q.2
  refine wpAny_bind (wpAny_holding (wpAny_call_entry PyProof.Rows.slot_list_sort ⟨_, hoL, rfl⟩ PyProof.Rows.entry_list_sort
    (PySem.W.list_sort_vals (κ := PySem.W.dataKind (PySem.W.sortingHeap (h'.push (seqObj "list" acc.toList.toArray 0)) h'.objs.size acc.toList) ((((ks.map fun (x : List Key × Addr × Value) => x.2.1).map V.ref).zip ks').map fun p => Datum.toD p.2)) (s := { s with heap := h'.push (seqObj "list" acc.toList.toArray 0), toks := tk }) hoL
      (PySem.W.SortsAt.data (s := { s with heap := PySem.W.sortingHeap (h'.push (seqObj "list" acc.toList.toArray 0)) h'.objs.size acc.toList, toks := tk }) (PySem.W.each_map (R := fun v d => ∃ as, PySem.Reads (PySem.W.sortingHeap (h'.push (seqObj "list" acc.toList.toArray 0)) h'.objs.size acc.toList) v d as) (fun (p : V × (Int × Int)) => Datum.toD p.2) er') hal2 ?_ ?_) hz ⟨_, rfl, ?_⟩)
    (PyProof.Rows.args_list_sort _)))
  · exact PySem.W.Sortable.tuples fun p => ⟨_, _, rfl⟩
  · intro dd hdd
    obtain ⟨p, _, rfl⟩ := List.mem_map.mp hdd
    have hdp : Datum.depth (Int × Int) ≤ 100 := by decide
    have := Datum.depth_le p.2
    have hA : X.A.in1.in1.units ≤ X.A.units + 2 := by simp [Around.in1]
    omega
  · have he2 := PySem.W.sortVals_data (R := fun (u : Value) (p : V × (Int × Int)) => RelV p.1 u ∧ R H p.1 p.2) (enc := fun p => Datum.toD p.2) false hE er' hal2
    rw [dataLe_T (fun p : V × (Int × Int) => p.2)] at he2
    obtain ⟨q1, q2⟩ := pairs_vals he2
    obtain ⟨e', he'⟩ := PyProof.Rows.sortedHeap_at (vs := acc.toList) (out := (PySem.W.sortVals (PySem.W.dataKind (PySem.W.sortingHeap (h'.push (seqObj "list" acc.toList.toArray 0)) h'.objs.size acc.toList) ((((ks.map fun (x : List Key × Addr × Value) => x.2.1).map V.ref).zip ks').map fun p => Datum.toD p.2)) false acc.toList acc.toList).toArray) hoL
    refine wpAny_pure ⟨_, rfl, .ref h'.objs.size, upd H h'.objs.size (.lst (sortV ((ks.map fun (x : List Key × Addr × Value) => x.2.1).map V.ref) ks')), I1.laid (t' := tk) (fun b u e => ?_) (Nat.le_refl _)
      (show ObjOk X.prog X.w _ _ _ (.lst _) from ⟨?_, _, e', q1, he'⟩), rfl, q _ _ hik (I1.hok.fresh (Nat.le_refl _))⟩
    · have hb : b < h'.objs.size := Heap.lt_size e
      rw [PyProof.Rows.sortedHeap_old (Nat.ne_of_lt hb) (by rw [size_push']; exact Nat.lt_succ_of_lt hb)]
      exact Heap.get?_push_of_some _ e
    · unfold sortV
      rw [List.length_map, List.length_mergeSort, List.length_zip, hlen, Nat.min_self, ← hlen, List.length_map, List.length_map]
      omega
end
end PG

set_option Elab.async false
set_option linter.all false
set_option maxRecDepth 100000
set_option maxHeartbeats 4000000
namespace PG
open PySem PySem.Spec PyProof.Rows L2
open PySem.W (T3 T4 Datum DatumOrd Holds HoldAll EachIs)

/-! ### a list of two things of two kinds -/
structure HL2 (a b : Type) where
  a : a
  b : b
  deriving DecidableEq
theorem HL2.same {a b : Type} : ∀ {p q : HL2 a b}, p.a = q.a → p.b = q.b → p = q
  | ⟨_, _⟩, ⟨_, _⟩, rfl, rfl => rfl
section
variable {α β : Type} [DecidableEq α] [Datum α] [DecidableEq β] [Datum β]
instance : Datum (HL2 α β) where
  toD p := .list [Datum.toD p.a, Datum.toD p.b]
  plain p := by simp only [PyData.plain, PyData.plainAll, Datum.plain, Bool.and_self]
  eqv p q := by
    simp only [PyData.eqv, PyData.eqvAll]
    rw [Datum.eqv, Datum.eqv, Bool.and_true, ← Bool.decide_and]
    exact decide_eq_decide.mpr ⟨fun e => HL2.same e.1 e.2, fun e => by rw [e]; exact ⟨rfl, rfl⟩⟩
  depth := max (Datum.depth α) (Datum.depth β) + 1
  depth_le p := by
    simp only [PyData.depth, PyData.depthAll]
    have h0 := Datum.depth_le p.a
    have h1 := Datum.depth_le p.b
    omega
end
instance {a b : Type} [Py a] [Py b] : Py (HL2 a b) := ⟨fun p => .list [Py.toD p.a, Py.toD p.b]⟩
section
variable {a b : Type} [Py a] [DecidableEq a] [Datum a] [IsD a] [Py b] [DecidableEq b] [Datum b] [IsD b]
instance : IsD (HL2 a b) := ⟨fun p => by show PyData.list [_, _] = PyData.list [_, _]; rw [IsD.eq, IsD.eq]⟩
end
theorem R.hl2 {a b : Type} [Py a] [Py b] {H : Hp} {p : Addr} {x : HL2 a b} {v1 v2 : V} (ha : H p = some (.lst [v1, v2])) (h1 : R H v1 x.a) (h2 : R H v2 x.b) : R H (.ref p) x := Rep.lst ha (.cons h1 (.cons h2 .nil))
/-! ### data without lists within -/
class NoL (a : Type) [Py a] : Prop where
  mv : ∀ (F F' : Hp), (∀ b xs, F b = some (.tup xs) → F' b = some (.tup xs)) → ∀ (v : V) (x : a), R F v x → R F' v x
instance : NoL Int := ⟨fun _ _ _ _ _ h => by rw [R.int_ h]; exact R.int⟩
instance : NoL Bool := ⟨fun _ _ _ _ _ h => by rw [R.bl_ h]; exact R.bl⟩
instance : NoL Str := ⟨fun _ _ _ _ _ h => by rw [R.str_ h]; exact R.str⟩
instance {a b : Type} [Py a] [Py b] [NoL a] [NoL b] : NoL (a × b) := ⟨fun _ _ t _ _ h => by
  obtain ⟨p, v1, v2, rfl, hp, h1, h2⟩ := R.t2_ h
  exact R.t2 (t _ _ hp) (NoL.mv _ _ t _ _ h1) (NoL.mv _ _ t _ _ h2)⟩
instance {a b c : Type} [Py a] [Py b] [Py c] [NoL a] [NoL b] [NoL c] : NoL (T3 a b c) := ⟨fun _ _ t _ _ h => by
  obtain ⟨p, v1, v2, v3, rfl, hp, h1, h2, h3⟩ := R.t3_ h
  exact R.t3 (t _ _ hp) (NoL.mv _ _ t _ _ h1) (NoL.mv _ _ t _ _ h2) (NoL.mv _ _ t _ _ h3)⟩
theorem RL.mv {a : Type} [Py a] [NoL a] {F F' : Hp} (t : ∀ b xs, F b = some (.tup xs) → F' b = some (.tup xs)) : ∀ {vs : List V} {xs : List a}, RL F vs xs → RL F' vs xs
  | _, [], h => by rw [RL.nil_ h]; exact RL.nil
  | _, x :: xs, h => by
    obtain ⟨w, ws, rfl, h1, h2⟩ := RL.cons_ h
    exact RL.cons (NoL.mv _ _ t _ _ h1) (RL.mv t h2)
/-! ### cells lent to a call -/
open Classical in
noncomputable def lendF (as : List Addr) (F H : Hp) : Hp := fun b => if b ∈ as then H b else F b
open Classical in
noncomputable def backF (as : List Addr) (F : Hp) : Hp := fun b => if b ∈ as then none else F b
section
variable {Z : Ent} {F F' H H' : Hp} {cs : List (Addr × HO)} {p a q : Addr} {o o' : HO} {as : List Addr}
theorem inA_nil : ∀ b ∈ ([] : List Addr), ∃ o, (b, o) ∈ cs := fun _ h => nomatch h
theorem inA_cons (i : Nat) (e : cs[i]? = some (a, o)) (h : ∀ b ∈ as, ∃ o, (b, o) ∈ cs) : ∀ b ∈ a :: as, ∃ o, (b, o) ∈ cs := fun b hb => by
  rcases List.mem_cons.mp hb with rfl | hb
  · exact ⟨o, List.mem_of_getElem? e⟩
  · exact h b hb
theorem lendF_at (h : a ∈ as) : lendF as F H a = H a := if_pos h
theorem Ow.lendS (O : Ow Z F cs H) (hin : ∀ b ∈ as, ∃ o, (b, o) ∈ cs) : Same F (lendF as F H) := fun b u e => by
  by_cases hb : b ∈ as
  · obtain ⟨o, hc⟩ := hin b hb
    have := O.cf _ hc
    have e' : F b = none := this
    rw [e'] at e; cases e
  · show (if b ∈ as then H b else F b) = _
    rw [if_neg hb]; exact e
theorem Ow.lendP (O : Ow Z F cs H) (hin : ∀ b ∈ as, ∃ o, (b, o) ∈ cs) : Pre (lendF as F H) [] H := by
  refine ⟨fun b u e => ?_, (fun _ h => nomatch h), (fun _ h => nomatch h), List.nodup_nil, fun _ h => nomatch h⟩
  have e : (if b ∈ as then H b else F b) = some u := e
  by_cases hb : b ∈ as
  · rw [if_pos hb] at e; exact e
  · rw [if_neg hb] at e; exact O.s b u e
theorem Ow.unlend (O : Ow Z F cs H) (hin : ∀ b ∈ as, ∃ o, (b, o) ∈ cs) (g : Gr [] (lendF as F H) H F' H') :
    Ow Z (backF as F') cs H' ∧ Same F (backF as F') ∧ (∀ b xs, F' b = some (.tup xs) → backF as F' b = some (.tup xs)) ∧ ∀ b, F' b = none → backF as F' b = none := by
  have inF : ∀ b, b ∉ as → ∀ u, F b = some u → F' b = some u := fun b hb u e => g.f b u (by
    show (if b ∈ as then H b else F b) = _
    rw [if_neg hb]; exact e)
  have nF : ∀ b ∈ as, F b = none := fun b hb => by obtain ⟨o, hc⟩ := hin b hb; exact O.cf _ hc
  have sF : Same F (backF as F') := fun b u e => by
    show (if b ∈ as then none else F' b) = _
    by_cases hb : b ∈ as
    · rw [nF b hb] at e; cases e
    · rw [if_neg hb]; exact inF b hb u e
  refine ⟨⟨⟨O.g.f.trans sF, fun b u e => ?_, fun b u hb e => g.k b u (fun h => nomatch h) (O.g.k b u hb e), fun b e => g.t b (O.g.t b e), fun b e => ?_, fun b xs e => ?_⟩, fun c hc => ?_, fun c hc => g.k _ _ (fun h => nomatch h) (O.ch c hc), O.nd, O.ca, O.nt⟩, sF, fun b xs e => ?_, fun b e => ?_⟩
  · have e : (if b ∈ as then none else F' b) = some u := e
    by_cases hb : b ∈ as
    · rw [if_pos hb] at e; cases e
    · rw [if_neg hb] at e; exact g.s b u e
  · show (if b ∈ as then none else F' b) = _ ∨ _
    by_cases hb : b ∈ as
    · rw [if_pos hb]
      rcases O.g.n b e with h0 | h0
      · rw [nF b hb] at h0; exact .inl h0
      · exact .inr h0
    · rw [if_neg hb]
      rcases O.g.n b e with h0 | h0
      · rcases g.n b (O.g.t b e) with h1 | ⟨xs, hx⟩
        · refine .inl (h1.trans ?_)
          show (if b ∈ as then H b else F b) = _
          rw [if_neg hb]; exact h0
        · rcases O.g.u b xs hx with z | z
          · exact absurd z e
          · exact .inr ⟨xs, z⟩
      · exact .inr h0
  · rcases g.u b xs e with z | z
    · refine .inl ?_
      cases q : Z.H b with
      | none => rfl
      | some u => exact absurd z (O.g.t b (by rw [q]; simp))
    · exact O.g.u b xs z
  · show (if c.1 ∈ as then none else F' c.1) = none
    by_cases hb : c.1 ∈ as
    · rw [if_pos hb]
    · rw [if_neg hb]
      have hl : lendF as F H c.1 = none := by
        show (if c.1 ∈ as then H c.1 else F c.1) = _
        rw [if_neg hb]; exact O.cf c hc
      exact g.none (O.ch c hc) (O.nt c hc) hl
  · show (if b ∈ as then none else F' b) = _
    by_cases hb : b ∈ as
    · obtain ⟨o, hc⟩ := hin b hb
      have h1 : lendF as F H b = some o := by
        show (if b ∈ as then H b else F b) = _
        rw [if_pos hb]; exact O.ch _ hc
      have h2 := g.f b o h1
      rw [e] at h2
      have h3 := O.nt _ hc
      have h3 : noTup o = true := h3
      rw [← Option.some.inj h2] at h3
      cases h3
    · rw [if_neg hb]; exact e
  · show (if b ∈ as then none else F' b) = _
    by_cases hb : b ∈ as
    · rw [if_pos hb]
    · rw [if_neg hb]; exact e
theorem Ow.fresh (O : Ow Z F cs H) (h : H p = none) : p ∉ cs.map (·.1) := fun hm => by
  obtain ⟨c, hc, e⟩ := List.mem_map.mp hm
  have z := O.ch c hc
  rw [e, h] at z
  cases z
theorem Ow.add' (O : Ow Z F cs H) (hm : p ∉ cs.map (·.1)) (hz : Z.H p = none) (hf : F p = none) (h : H p = some o) (ht : noTup o = true := by rfl) : Ow Z F ((p, o) :: cs) H where
  g := O.g
  cf := fun c hc => by
    rcases List.mem_cons.mp hc with rfl | hc
    · exact hf
    · exact O.cf c hc
  ch := fun c hc => by
    rcases List.mem_cons.mp hc with rfl | hc
    · exact h
    · exact O.ch c hc
  nd := by
    rw [List.map_cons, List.nodup_cons]
    exact ⟨hm, O.nd⟩
  ca := fun c hc => by
    rcases List.mem_cons.mp hc with rfl | hc
    · exact .inr hz
    · exact O.ca c hc
  nt := fun c hc => by
    rcases List.mem_cons.mp hc with rfl | hc
    · exact ht
    · exact O.nt c hc
theorem Ow.ne (O : Ow Z F cs H) (i j : Nat) (hij : i ≠ j) (ei : cs[i]? = some (a, o)) (ej : cs[j]? = some (q, o')) : a ≠ q := fun e => by
  subst e
  have h1 : (cs.map (·.1))[i]? = some a := by rw [List.getElem?_map, ei]; rfl
  have h2 : (cs.map (·.1))[j]? = some a := by rw [List.getElem?_map, ej]; rfl
  exact hij (nd_ix O.nd h1 h2)
end
theorem nmem2 {p q : Addr} {l : List Addr} (h : p ≠ q) (h2 : p ∉ l) : p ∉ q :: l := fun m => by
  rcases List.mem_cons.mp m with e | m
  · exact h e
  · exact h2 m
/-! ### while -/
inductive Ws (s r : Type) where
  | go (x : s)
  | stop (x : s)
  | rt (z : r)
def whL {s r : Type} (b : s → M (Ws s r)) : Nat → s → M (Fl s r)
  | 0, _ => bad
  | n + 1, x => b x >>= fun
    | .go x' => whL b n x'
    | .stop x' => .ok (.nx x')
    | .rt z => .ok (.rt z)
theorem whL_L {s r a : Type} {Q : a → Prop} {E : String → Prop} {b : s → M (Ws s r)} {n : Nat} {x : s} {k : Fl s r → M a} (h : wp (whL b n x >>= k) Q E) :
    ∃ (L : Nat → s → Prop) (X : s → Prop), L n x ∧ (∀ m x, L m x → wp (b x) (fun w => match w with
      | .go x' => ∃ m', m' < m ∧ L m' x'
      | .stop x' => X x'
      | .rt z => wp (k (.rt z)) Q E) E) ∧ ∀ x, X x → wp (k (.nx x)) Q E := by
  refine ⟨fun n x => wp (whL b n x >>= k) Q E, fun x => wp (k (.nx x)) Q E, h, fun m x hx => ?_, fun x hx => hx⟩
  cases m with
  | zero => exact hx.elim
  | succ m =>
    have hx : wp ((b x >>= fun
      | .go x' => whL b m x'
      | .stop x' => .ok (.nx x')
      | .rt z => .ok (.rt z)) >>= k) Q E := hx
    rw [wp_bind, wp_bind] at hx
    cases e : b x with
    | error e2 => rw [e] at hx; cases e2 <;> exact hx
    | ok w =>
      rw [e] at hx
      cases w with
      | go x' => exact ⟨m, Nat.lt_succ_self m, wp_bind.mpr hx⟩
      | stop x' => exact hx
      | rt z => exact hx
theorem while_P {c : TT} {tb : TS} {D : Ends} {σ : L2.St} {H : Hp} (W : Nat → L2.St → Hp → Prop) (X : L2.St → Hp → Prop) (n : Nat) (h0 : W n σ H) (exit : ∀ σ H, X σ H → D.nx σ H)
    (turn : (∀ σ H, X σ H → D.nx σ H) → ∀ m σ H, W m σ H → c σ H fun b H1 => if b = true then ∃ N : L2.St → Hp → Prop, (∀ σ' H', N σ' H' → ∃ m', m' < m ∧ W m' σ' H') ∧ tb { D with nx := N, ct := N, bk := D.nx } σ H1 else D.nx σ H1) : tWhile c tb D σ H :=
  ⟨W, ⟨n, h0⟩, turn exit⟩
/-! ### a < b < c < d -/
section
variable {X : Cx} {a b c d : Expr} {ta tb tc td : TE} {pos : Pos}
def tChain3 (r r' r'' : R2) (ta tb tc td : TE) : TE := fun σ H Q => ta σ H fun x H1 => tb σ H1 fun y H2 => r x y H2 fun z H3 => ∃ k, z = .bl k ∧
  (if k = true then tc σ H3 fun w' H4 => r' y w' H4 fun z' H5 => ∃ k', z' = .bl k' ∧ (if k' = true then td σ H5 fun u' H6 => r'' w' u' H6 Q else Q (.bl false) H5) else Q (.bl false) H3)
theorem pt_chain3 {op op' op'' : CmpOp} {r r' r'' : R2} (ho : OpR X (compareOp op) r) (ho' : OpR X (compareOp op') r') (ho'' : OpR X (compareOp op'') r'') (ha : PE X a ta) (hb : PE X b tb) (hc : PE X c tc) (hd : PE X d td)
    (hm : lastMarks [op, op', op''] [b, c, d] = false := by with_unfolding_all rfl) : PT X (.Compare a [op, op', op''] [b, c, d] pos) (tTest (tChain3 r r' r'' ta tb tc td)) := by
  refine ⟨fun pins s σ H Q I h => ?_⟩
  refine isTrue_chain (thn (ha.run pins s σ H _ I h) fun v s1 ⟨x, H1, I1, r1, q1⟩ => test_link (thn (hb.run pins s1 σ H1 _ I1 q1) fun u s2 ⟨y, H2, I2, r2, q2⟩ =>
    thn (ho pins s2 σ H2 x y v u _ I2 r1 r2 q2) fun d1 s3 ⟨z, H3, I3, r3, k, e, q3⟩ => ?_)) hm
  subst e
  cases r3
  refine wpAny_truthy_bool ?_
  cases k with
  | false =>
    obtain ⟨k', e', q'⟩ := q3
    cases e'
    exact ite_ff ⟨H3, I3, q'⟩
  | true =>
    refine ite_tt (test_link (thn (hc.run pins s3 σ H3 _ I3 q3) fun w' s4 ⟨z', H4, I4, r4, q4⟩ => thn (ho' pins s4 σ H4 y z' u w' _ I4 r2 r4 q4) fun d2 s5 ⟨z2, H5, I5, r5, k2, e2, q5⟩ => ?_))
    subst e2
    cases r5
    refine wpAny_truthy_bool ?_
    cases k2 with
    | false =>
      obtain ⟨k', e', q'⟩ := q5
      cases e'
      exact ite_ff ⟨H5, I5, q'⟩
    | true =>
      refine ite_tt (test_last (thn (hd.run pins s5 σ H5 _ I5 q5) fun u' s6 ⟨z3, H6, I6, r6, q6⟩ => thn (ho'' pins s6 σ H6 z' z3 w' u' _ I6 r4 r6 q6) fun d3 s7 ⟨z4, H7, I7, r7, k3, e3, q7⟩ => ?_))
      subst e3
      cases r7
      exact wpAny_truthy_bool ⟨H7, I7, q7⟩
end
/-! ### list.index of whole numbers -/
def ixI (xs : List Int) (y : Int) : M Int := if y ∈ xs then .ok ((xs.findIdx (· == y) : Nat) : Int) else bad
theorem wp_ixI {a : Type} {Q : a → Prop} {E : String → Prop} {xs : List Int} {y : Int} {k : Int → M a} (h : wp (ixI xs y >>= k) Q E) : ∃ j, xs.findIdx (· == y) = j ∧ xs[j]? = some y ∧ (∀ (m : Nat) z, m < j → xs[m]? = some z → z ≠ y) ∧ wp (k (j : Int)) Q E := by
  unfold ixI at h
  by_cases hm : y ∈ xs
  · rw [if_pos hm] at h
    have hlt : xs.findIdx (· == y) < xs.length := List.findIdx_lt_length_of_exists ⟨y, hm, by simp⟩
    refine ⟨_, rfl, ?_, fun m z hmj hz e => ?_, h⟩
    · rw [List.getElem?_eq_getElem hlt]
      have := List.findIdx_getElem (w := hlt)
      rw [eq_of_beq this]
    · have := List.not_of_lt_findIdx hmj
      obtain ⟨hl, hz⟩ := List.getElem?_eq_some_iff.mp hz
      rw [hz, e] at this
      simp at this
  · rw [if_neg hm] at h; exact h.elim
theorem all_flat_int : ∀ xs : List Int, (xs.map V.int).all flatV = true
  | [] => rfl
  | x :: xs => by rw [List.map_cons, List.all_cons, all_flat_int xs]; rfl
theorem int_noeq {xs : List Int} {y : Int} {j : Nat} (h : ∀ (m : Nat) z, m < j → xs[m]? = some z → z ≠ y) : ∀ (m : Nat) (z' : V), m < j → (xs.map V.int)[m]? = some z' → eqV z' (.int y) = false := fun m z' hm hz => by
  rw [List.getElem?_map] at hz
  cases e : xs[m]? with
  | none => rw [e] at hz; cases hz
  | some z =>
    rw [e] at hz
    have hz : V.int z = z' := Option.some.inj hz
    subst hz
    have := h m z hm e
    show (z == y) = false
    simpa using this
theorem int_at {xs : List Int} {y : Int} {j : Nat} (h : xs[j]? = some y) : (xs.map V.int)[j]? = some (.int y) := by rw [List.getElem?_map, h]; rfl
theorem int_eq {y : Int} : eqV (.int y) (.int y) = true := by show (y == y) = true; simp
/-! ### dict(list of pairs), the keys whole numbers -/
section
variable {β : Type} [Py β] {F H : Hp}
def mergeD (xs : List (Int × β)) : List (Int × β) := xs.foldl (fun acc p => dPut acc p.1 p.2) []
theorem merge_rd {kvs : List (Key × V)} {xs : List (Int × β)} (hs : RD F kvs xs) : ∀ {acc : List (Key × V)} {ac : List (Int × β)}, RD F acc ac → RD F (mergeK acc kvs) (xs.foldl (fun acc p => dPut acc p.1 p.2) ac) := by
  induction hs with
  | nil => intro acc ac h; exact h
  | @cons k v y kvs xs hv _ ih =>
    intro acc ac h
    exact ih (h.put k hv)
theorem pairs_of_rl {K : PySem.W.Frag} (s : Same F H) : ∀ {vs : List V} {xs : List (Int × β)}, RL F vs xs → ∃ (ps : List Addr) (kvs : List (Key × V)), vs = ps.map V.ref ∧ Paired (fun p kv => SqT K H p [kV kv.1, kv.2]) ps kvs ∧ RD F kvs xs
  | _, [], h => ⟨[], [], RL.nil_ h, .nil, .nil⟩
  | _, x :: xs, h => by
    obtain ⟨w, ws, rfl, h1, h2⟩ := RL.cons_ h
    obtain ⟨ps, kvs, e, hp, hr⟩ := pairs_of_rl (K := K) s h2
    obtain ⟨p, v1, v2, rfl, hp1, h3, h4⟩ := R.t2_ h1
    rw [R.int_ h3] at hp1
    exact ⟨p :: ps, (.inl x.1, v2) :: kvs, by rw [e]; rfl, .cons (SqT.of (s _ _ hp1)) hp, .cons (k := x.1) h4 hr⟩
end
/-! ### the same rules, the fragment told outright (within a comprehension) -/
section
variable {X : Cx} {K : PySem.W.Frag}
theorem ixTupK (h : X.K = K) : IxR X (rIxT K) := by rw [← h]; exact ix_tup
theorem ixListK (h : X.K = K) : IxR X (rIxL K) := by rw [← h]; exact ix_list
theorem listOfK (h : X.K = K) : CallR X (.type "list") (fun xs H Q => ∃ p ys, xs = [.ref p] ∧ (SqL K H p ys ∨ SqT K H p ys) ∧ ∀ l, H l = none → Q (.ref l) (upd H l (.lst ys))) := by rw [← h]; exact call_list_of
theorem isiK (h : X.K = K) : CallR X (.builtin "isinstance") (rIsi K) := by rw [← h]; exact call_isi
theorem slListK (h : X.K = K) : SlR X (rSlL K) := by rw [← h]; exact sl_list
theorem indexK (h : X.K = K) : MtR X "list.index" (rIndex K) := by rw [← h]; exact mt_index
end
/-! ### enumerate in a comprehension -/
def enumL {b : Type} (xs : List b) : List (Int × b) := xs.zipIdx.map fun p => ((p.2 : Int), p.1)
theorem enumL_get {b : Type} {xs : List b} {i : Nat} {x : b} (h : xs[i]? = some x) : (enumL xs).drop i = ((i : Int), x) :: (enumL xs).drop (i + 1) := by
  apply drop_at
  unfold enumL
  rw [List.getElem?_map, List.getElem?_zipIdx, h]
  simp
theorem enumL_len {b : Type} {xs : List b} : (enumL xs).length = xs.length := by unfold enumL; simp
theorem enumL_end {b : Type} {xs : List b} {vs : List V} (h : vs.length = xs.length) : (enumL xs).drop vs.length = [] := by
  rw [h, ← enumL_len, List.drop_length]
theorem comp_lenE {b : Type} {w vs : List V} {xs : List b} {i : Nat} (la : w.length ≤ i) (hi : i < vs.length) (hl : vs.length = xs.length) (c : (enumL xs).length < 16777216) : w.length < sizeLine := by
  rw [enumL_len] at c
  exact lt_line (by omega)
theorem zip_at {a b : Type} {xs : List a} {ys : List b} {i : Nat} {x : a} {y : b} (h : xs[i]? = some x) (h2 : ys[i]? = some y) : (xs.zip ys).drop i = (x, y) :: (xs.zip ys).drop (i + 1) := by
  apply drop_at
  rw [List.getElem?_zip_eq_some]
  exact ⟨h, h2⟩
theorem zip_end {a b : Type} {xs : List a} {ys : List b} {vs ws : List V} (h : vs.length = xs.length) (h2 : ws.length = ys.length) : (xs.zip ys).drop (min vs.length ws.length) = [] := by
  rw [h, h2, ← List.length_zip, List.drop_length]
theorem comp_lenZ {a b : Type} {w vs ws : List V} {xs : List a} {ys : List b} {i : Nat} (la : w.length ≤ i) (hi : i < min vs.length ws.length) (h : vs.length = xs.length) (h2 : ws.length = ys.length) (c : (xs.zip ys).length < 16777216) : w.length < sizeLine := by
  rw [List.length_zip, ← h, ← h2] at c
  exact lt_line (by omega)
section
variable {X : Cx} {K : PySem.W.Frag}
theorem cr_sumK (hc : X.calm = true) (h : X.K = K) : CallR X (.builtin "sum") (rSum K) := by rw [← h]; exact cr_sum hc
end
end PG

set_option Elab.async false
set_option linter.all false
set_option maxRecDepth 100000
set_option maxHeartbeats 4000000
namespace PG
open PySem PySem.Spec PyProof.Rows L2
open PySem.W (T3 T4 Datum DatumOrd Holds HoldAll EachIs)
/-! ### sums: ("number", n), (word, n), (word,), (word, a, b) -/
inductive Sm where
  | num (w : Str) (n : Int)
  | nam (w : Str)
  | two (w : Str) (a b : Sm)
  deriving DecidableEq
def Sm.d : Sm → PyData
  | .num w n => .tuple [.str w, .int n]
  | .nam w => .tuple [.str w]
  | .two w a b => .tuple [.str w, a.d, b.d]
instance : Py Sm := ⟨Sm.d⟩
def Sm.word : Sm → Str
  | .num w _ => w
  | .nam w => w
  | .two w _ _ => w
def Sm.int? : Sm → Option Int
  | .num _ n => some n
  | _ => none
def Sm.two? : Sm → Option (Sm × Sm)
  | .two _ a b => some (a, b)
  | _ => none
section
variable {F : Hp} {v : V} {p : Addr} {x : Sm}
theorem R.sm_ (h : R F v x) : ∃ p ws, v = .ref p ∧ F p = some (.tup (V.str x.word :: ws)) := by
  cases x with
  | num w n =>
    obtain ⟨p, v1, v2, e, hp, h1, h2⟩ := R.t2_ (show R (a := Str × Int) F v (w, n) from h)
    rw [R.str_ h1] at hp
    exact ⟨p, [v2], e, hp⟩
  | nam w =>
    have h' : Rep F v (.tuple [.str w]) := h
    cases h' with
    | tup ha hs =>
      cases hs with
      | cons h1 hs =>
        cases hs
        cases h1
        exact ⟨_, _, rfl, ha⟩
  | two w a b =>
    obtain ⟨p, v1, v2, v3, e, hp, h1, h2, h3⟩ := R.t3_ (show R (a := T3 Str Sm Sm) F v ⟨w, a, b⟩ from h)
    rw [R.str_ h1] at hp
    exact ⟨p, [v2, v3], e, hp⟩
theorem R.sm_int {n : Int} (h : R F v x) (e : x.int? = some n) : ∃ p w, v = .ref p ∧ F p = some (.tup [V.str w, V.int n]) := by
  cases x with
  | num w m =>
    obtain ⟨p, v1, v2, e1, hp, h1, h2⟩ := R.t2_ (show R (a := Str × Int) F v (w, m) from h)
    rw [R.str_ h1, R.int_ h2] at hp
    have e : some m = some n := e
    cases e
    exact ⟨p, w, e1, hp⟩
  | nam w => cases e
  | two w a b => cases e
theorem R.sm_two {q : Sm × Sm} (h : R F v x) (e : x.two? = some q) : ∃ p w va vb, v = .ref p ∧ F p = some (.tup [V.str w, va, vb]) ∧ R F va q.1 ∧ R F vb q.2 := by
  cases x with
  | num w m => cases e
  | nam w => cases e
  | two w a b =>
    obtain ⟨p, v1, v2, v3, e1, hp, h1, h2, h3⟩ := R.t3_ (show R (a := T3 Str Sm Sm) F v ⟨w, a, b⟩ from h)
    rw [R.str_ h1] at hp
    have e : some (a, b) = some q := e
    cases e
    exact ⟨p, w, v2, v3, e1, hp, h2, h3⟩
theorem R.of_num {q : Str × Int} (h : R F v q) : R F v (Sm.num q.1 q.2) := h
theorem R.of_two {q : T3 Str Sm Sm} (h : R F v q) : R F v (Sm.two q.a q.b q.c) := h
theorem R.of_nam {w : Str} (h : F p = some (.tup [V.str w])) : R F (.ref p) (Sm.nam w) := Rep.tup h (.cons (.str w) .nil)
end
/-! ### a whole number or a list of such -/
inductive IL where
  | i (n : Int)
  | l (xs : List Int)
instance : Py IL := ⟨fun
  | .i n => Py.toD n
  | .l xs => Py.toD xs⟩
def IL.i? : IL → Option Int
  | .i n => some n
  | _ => none
def IL.l? : IL → Option (List Int)
  | .l xs => some xs
  | _ => none
section
variable {F : Hp} {v : V}
theorem R.il_i {x : IL} {n : Int} (h : R F v x) (e : x.i? = some n) : R F v n := by
  cases x with
  | i m => have e : some m = some n := e; cases e; exact h
  | l xs => cases e
theorem R.il_l {x : IL} {xs : List Int} (h : R F v x) (e : x.l? = some xs) : R F v xs := by
  cases x with
  | i m => cases e
  | l ys => have e : some ys = some xs := e; cases e; exact h
theorem R.of_i {n : Int} (h : R F v n) : R F v (IL.i n) := h
theorem R.of_l {xs : List Int} (h : R F v xs) : R F v (IL.l xs) := h
end
section
variable {β : Type} [Py β] {F : Hp}
def mergeDS (xs : List (Str × β)) : List (Str × β) := xs.foldl (fun acc p => dPut acc p.1 p.2) []
theorem merge_rdS {kvs : List (Key × V)} {xs : List (Str × β)} (hs : RD F kvs xs) : ∀ {acc : List (Key × V)} {ac : List (Str × β)}, RD F acc ac → RD F (mergeK acc kvs) (xs.foldl (fun acc p => dPut acc p.1 p.2) ac) := by
  induction hs with
  | nil => intro acc ac h; exact h
  | @cons k v y kvs xs hv _ ih =>
    intro acc ac h
    exact ih (h.put k hv)
end
section
variable {X : Cx} {K : PySem.W.Frag} {pos : Pos}
theorem slTupK (h : X.K = K) : SlR X (rSlT K) := by rw [← h]; exact sl_tup
theorem pgLstK (h : X.K = K) {es : List Expr} {k : Nat} {t : TGs} {n : Nat} (hc : X.calm = true) (hp : PGs X es t)
    (hn : (assignEach es X.env).length = n := by rfl) (hst : (assignEach es X.env).findIdx? (·.1) = none := by rfl) : PG X (.Tuple es k pos) (gLst K n t) := by rw [← h]; exact pg_lst hc hp hn hst
end
theorem RL.two {a : Type} [Py a] {F : Hp} {vs : List V} {xs : List a} (h : RL F vs xs) (e : xs.length = 2) : ∃ v1 v2 x1 x2, vs = [v1, v2] ∧ xs = [x1, x2] ∧ R F v1 x1 ∧ R F v2 x2 := by
  match xs, e with
  | [x1, x2], _ =>
    obtain ⟨w, ws, rfl, h1, h2⟩ := RL.cons_ h
    obtain ⟨w2, ws2, rfl, h3, h4⟩ := RL.cons_ h2
    rw [RL.nil_ h4]
    exact ⟨w, w2, x1, x2, rfl, rfl, h1, h3⟩
/-- a list of just two -/
def two2 {a : Type} (xs : List a) : M (a × a) := match xs with
  | [x, y] => .ok (x, y)
  | _ => bad
theorem wp_two2 {a b : Type} {Q : a → Prop} {E : String → Prop} {xs : List b} {k : b × b → M a} (h : wp (two2 xs >>= k) Q E) : ∃ x y, xs = [x, y] ∧ wp (k (x, y)) Q E := by
  match xs, h with
  | [x, y], h => exact ⟨x, y, rfl, h⟩
  | [], h => exact h.elim
  | [_], h => exact h.elim
  | _ :: _ :: _ :: _, h => exact h.elim
theorem sl3 (a b c : V) : ¬ (HT.sIx [a, b, c].length 0 (some (1 : Int)) = 0 ∧ HT.sIx [a, b, c].length [a, b, c].length none = [a, b, c].length) := fun h => absurd h.1 (by show ¬ (HT.sIx 3 0 (some (1 : Int)) = 0); decide)
theorem intB {X : Cx} : CallR X (.type "int") (fun xs H Q => ∃ k, xs = [.bl k] ∧ Q (.int (if k then 1 else 0)) H) := fun pins s σ H xs us Q I r h => call_int1 pins s σ H xs us Q I r (.inr h)
theorem atI0 {a : Type} (x : a) (xs : List a) : L2.atI (x :: xs) (0 : Int) = some x := by
  unfold L2.atI ixN
  rw [if_pos (by omega), if_pos (by rw [List.length_cons]; omega)]
  rfl
end PG

set_option Elab.async false
set_option linter.all false
set_option maxRecDepth 100000
set_option maxHeartbeats 4000000
namespace PG
open PySem PySem.Spec PyProof.Rows L2
open PySem.W (T3 T4 Datum DatumOrd Holds HoldAll EachIs)
/-! ### == of data of any depth, the depth asked outright -/
class DatumX (a : Type) [Py a] [DecidableEq a] : Prop where
  plain : ∀ x : a, (Py.toD x).plain = true
  eqv : ∀ x y : a, PyData.eqv (Py.toD x) (Py.toD y) = decide (x = y)
instance (priority := 50) {a : Type} [Py a] [DecidableEq a] [Datum a] [IsD a] : DatumX a := ⟨fun x => by rw [IsD.eq]; exact Datum.plain x, fun x y => by rw [IsD.eq, IsD.eq]; exact Datum.eqv x y⟩
theorem Sm.pl : ∀ x : Sm, x.d.plain = true
  | .num w n => by simp [Sm.d, PyData.plain, PyData.plainAll]
  | .nam w => by simp [Sm.d, PyData.plain, PyData.plainAll]
  | .two w a b => by simp [Sm.d, PyData.plain, PyData.plainAll, Sm.pl a, Sm.pl b]
theorem ev23 (w w' : Str) (n : PyData) (x y : PyData) : PyData.eqv (.tuple [.str w, n]) (.tuple [.str w', x, y]) = false := by simp [PyData.eqv, PyData.eqvAll]
theorem ev32 (w w' : Str) (n : PyData) (x y : PyData) : PyData.eqv (.tuple [.str w', x, y]) (.tuple [.str w, n]) = false := by simp [PyData.eqv, PyData.eqvAll]
theorem ev13 (w w' : Str) (x y : PyData) : PyData.eqv (.tuple [.str w]) (.tuple [.str w', x, y]) = false := by simp [PyData.eqv, PyData.eqvAll]
theorem ev31 (w w' : Str) (x y : PyData) : PyData.eqv (.tuple [.str w', x, y]) (.tuple [.str w]) = false := by simp [PyData.eqv, PyData.eqvAll]
theorem Sm.ev : ∀ x y : Sm, PyData.eqv x.d y.d = decide (x = y)
  | .num w n, .num w' n' => by
    simp only [Sm.d, PyData.eqv, PyData.eqvAll, Bool.and_true]
    rw [PySem.W.beq_decide, PySem.W.beq_decide, ← Bool.decide_and]
    exact decide_eq_decide.mpr (by rw [Sm.num.injEq])
  | .num w n, .nam w' => by simp [Sm.d, PyData.eqv, PyData.eqvAll]
  | .num w n, .two w' a b => (ev23 w w' (.int n) a.d b.d).trans (by simp)
  | .nam w, .num w' n => by simp [Sm.d, PyData.eqv, PyData.eqvAll]
  | .nam w, .nam w' => by
    simp only [Sm.d, PyData.eqv, PyData.eqvAll, Bool.and_true]
    rw [PySem.W.beq_decide]
    exact decide_eq_decide.mpr (by rw [Sm.nam.injEq])
  | .nam w, .two w' a b => (ev13 w w' a.d b.d).trans (by simp)
  | .two w a b, .num w' n => (ev32 w' w (.int n) a.d b.d).trans (by simp)
  | .two w a b, .nam w' => (ev31 w' w a.d b.d).trans (by simp)
  | .two w a b, .two w' a' b' => by
    simp only [Sm.d, PyData.eqv, PyData.eqvAll, Bool.and_true]
    rw [PySem.W.beq_decide, Sm.ev a a', Sm.ev b b', ← Bool.decide_and, ← Bool.decide_and]
    exact decide_eq_decide.mpr (by rw [Sm.two.injEq])
instance : DatumX Sm := ⟨Sm.pl, Sm.ev⟩
section
variable {a b c d : Type} [Py a] [DecidableEq a] [DatumX a] [Py b] [DecidableEq b] [DatumX b] [Py c] [DecidableEq c] [DatumX c] [Py d] [DecidableEq d] [DatumX d]
theorem plainX : ∀ xs : List a, PyData.plainAll (xs.map Py.toD) = true
  | [] => rfl
  | x :: xs => by
    rw [List.map_cons, PyData.plainAll, DatumX.plain x, plainX xs]
    rfl
theorem eqvX : ∀ xs ys : List a, PyData.eqvAll (xs.map Py.toD) (ys.map Py.toD) = decide (xs = ys)
  | [], [] => by simp only [List.map_nil, PyData.eqvAll, decide_true]
  | [], _ :: _ => by simp [PyData.eqvAll]
  | _ :: _, [] => by simp [PyData.eqvAll]
  | x :: xs, y :: ys => by
    rw [List.map_cons, List.map_cons, PyData.eqvAll, DatumX.eqv x y, eqvX xs ys, ← Bool.decide_and]
    exact decide_eq_decide.mpr (by rw [List.cons.injEq])
instance : DatumX (List a) := ⟨fun xs => by show PyData.plain (.list (xs.map Py.toD)) = true; simp only [PyData.plain]; exact plainX xs, fun xs ys => by show PyData.eqv (.list (xs.map Py.toD)) (.list (ys.map Py.toD)) = _; simp only [PyData.eqv]; exact eqvX xs ys⟩
theorem T4.sm {p q : T4 a b c d} : p = q ↔ p.a = q.a ∧ p.b = q.b ∧ p.c = q.c ∧ p.d = q.d := by
  cases p; cases q
  simp
instance : DatumX (T4 a b c d) := ⟨fun p => by show PyData.plain (.tuple [_, _, _, _]) = true; simp only [PyData.plain, PyData.plainAll, DatumX.plain, Bool.and_self], fun p q => by
  show PyData.eqv (.tuple [_, _, _, _]) (.tuple [_, _, _, _]) = _
  simp only [PyData.eqv, PyData.eqvAll]
  rw [DatumX.eqv, DatumX.eqv, DatumX.eqv, DatumX.eqv, Bool.and_true, ← Bool.decide_and, ← Bool.decide_and, ← Bool.decide_and]
  exact decide_eq_decide.mpr T4.sm.symm⟩
end
def dep {a : Type} [Py a] (x : a) : Nat := (Py.toD x).depth
section
variable {X : Cx} (a : Type) [Py a] [DecidableEq a] [DatumX a]
def rEqX : R2 := fun x y H Q => ∃ p q : a, R H x p ∧ R H y q ∧ min (dep p) (dep q) ≤ 60 ∧ Q (.bl (decide (p = q))) H
def rNeX : R2 := fun x y H Q => ∃ p q : a, R H x p ∧ R H y q ∧ min (dep p) (dep q) ≤ 60 ∧ Q (.bl (decide (p ≠ q))) H
theorem op_eqX (hu : X.A.units + 64 < cLine) : OpR X (compareOp .Eq) (rEqX a) := by
  intro pins s σ H x y v u Q I rx ry h
  obtain ⟨p, q, hp, hq, hd, k⟩ := h
  obtain ⟨as, ra⟩ := Dp.reads I _ _ _ (Rep.dp _ _ hp) rx
  obtain ⟨bs, rb⟩ := Dp.reads I _ _ _ (Rep.dp _ _ hq) ry
  have hd' : min (Py.toD p).depth (Py.toD q).depth ≤ 60 := hd
  exact PySem.SeqAt.eq_plain ra rb (DatumX.plain p) (DatumX.plain q) (by omega) (by rw [DatumX.eqv p q]; exact ⟨.bl _, H, I, rfl, k⟩)
theorem op_neX (hu : X.A.units + 64 < cLine) : OpR X (compareOp .NotEq) (rNeX a) := by
  intro pins s σ H x y v u Q I rx ry h
  obtain ⟨p, q, hp, hq, hd, k⟩ := h
  obtain ⟨as, ra⟩ := Dp.reads I _ _ _ (Rep.dp _ _ hp) rx
  obtain ⟨bs, rb⟩ := Dp.reads I _ _ _ (Rep.dp _ _ hq) ry
  have hd' : min (Py.toD p).depth (Py.toD q).depth ≤ 60 := hd
  exact PySem.SeqAt.ne_plain ra rb (DatumX.plain p) (DatumX.plain q) (by omega) (by rw [DatumX.eqv p q, ← decide_not]; exact ⟨.bl _, H, I, rfl, k⟩)
end
/-! ### a tuple of things of one kind, of any length -/
structure Tp (a : Type) where
  l : List a
instance {a : Type} [Py a] : Py (Tp a) := ⟨fun t => .tuple (t.l.map Py.toD)⟩
section
variable {a : Type} [Py a] {F : Hp} {v : V}
theorem R.tp_ {x : Tp a} (h : R F v x) : ∃ p vs, v = .ref p ∧ F p = some (.tup vs) ∧ RL F vs x.l := by
  have h' : Rep F v (.tuple (x.l.map Py.toD)) := h
  cases h' with
  | tup ha hs => exact ⟨_, _, rfl, ha, hs⟩
theorem R.tp2 {q : a × a} (h : R F v q) : R F v (Tp.mk [q.1, q.2]) := h
theorem R.tp3 {q : T3 a a a} (h : R F v q) : R F v (Tp.mk [q.a, q.b, q.c]) := h
theorem R.tp1 {w : Str} (h : R F v (Sm.nam w)) : R F v (Tp.mk [w]) := h
end
end PG

set_option Elab.async false
set_option linter.all false
set_option maxRecDepth 100000
set_option maxHeartbeats 4000000
namespace PG
open PySem PySem.Spec PyProof.Rows L2
open PySem.W (T3 T4 Datum DatumOrd Holds HoldAll EachIs)
/-! ### dict(a list of pairs), the keys tuples -/
def mergeT (kvs more : List (List Key × V)) : List (List Key × V) := more.foldl (fun m q => putK m q.1 q.2) kvs
theorem mergeT_kt {H : Hp} {kvs : List (List Key × V)} {xs : List (List Key × Addr × Value)} (r : KT H kvs xs) : ∀ {m : List (List Key × V)} {ms : List (List Key × Addr × Value)}, KT H m ms →
    KT H (mergeT m kvs) (storedAllH ms xs) := by
  induction r with
  | nil => intro m ms h; exact h
  | @cons p q ps qs h t ih =>
    intro m ms hm
    obtain ⟨e, hb, rv⟩ := h
    have := ih (KT.put hm q.1 (b := q.2.1) (by rw [← e]; exact hb) rv)
    unfold mergeT storedAllH at *
    rw [List.foldl_cons, List.foldl_cons, e]
    exact this
def PairT (K : PySem.W.Frag) (H : Hp) (p : Addr × Addr) (q : List Key × V) : Prop := SqT K H p.1 [.ref p.2, q.2] ∧ H p.2 = some (.tup (q.1.map kV))
theorem kt_at {H : Hp} {kvs : List (List Key × V)} {xs : List (List Key × Addr × Value)} (r : KT H kvs xs) : ∀ x ∈ xs, H x.2.1 = some (.tup (x.1.map kV)) := by
  induction r with
  | nil => exact fun x hx => nomatch hx
  | cons h _ ih => intro x hx; rcases List.mem_cons.mp hx with rfl | hx; · rw [← h.1]; exact h.2.1
                   · exact ih x hx
theorem ne_of_none {H : Hp} {b c : Addr} {o : HO} (e : H c = some o) (n : H b = none) : c ≠ b := fun z => by rw [z, n] at e; exact nomatch e
section
variable {X : Cx}
theorem tripT {pins : List (Addr × Obj)} {σ : L2.St} {H : Hp} {s : Shared} (I : Inv X pins σ H s) {ps : List (Addr × Addr)} {kvs : List (List Key × V)} (h : Paired (PairT X.K H) ps kvs) :
    ∃ xs : List (List Key × Addr × Value), KT H kvs xs ∧ xs.length = ps.length ∧ ∀ (j : Nat) q, xs[j]? = some q → ∃ b, ps[j]? = some b ∧ b.2 = q.2.1 ∧ IsTup s.heap b.1 #[.ref q.2.1, q.2.2] := by
  induction h with
  | nil => exact ⟨[], .nil, rfl, fun j q e => by simp at e⟩
  | @cons p kv ps' kvs' h t ih =>
    obtain ⟨xs, r, hl, hx⟩ := ih
    obtain ⟨h1, h2⟩ := h
    obtain ⟨its, rv, ht, _⟩ := I.tuple h1
    obtain ⟨u, y, ei, ru, ry⟩ := vals2 rv
    subst ei
    cases ru
    refine ⟨(kv.1, p.2, y) :: xs, .cons ⟨rfl, h2, ry⟩ r, by simp [hl], fun j q e => ?_⟩
    cases j with
    | zero =>
      have e' : (kv.1, p.2, y) = q := Option.some.inj e
      subst e'
      exact ⟨p, rfl, rfl, ht⟩
    | succ j => exact (hx j q (by simpa using e)).imp fun b z => ⟨by simpa using z.1, z.2⟩
theorem refs_pT : ∀ {ps : List (Addr × Addr)} {us : List Value}, Vals (ps.map fun p => V.ref p.1) us → us = ps.map fun p => Value.ref p.1
  | [], us, r => by rw [List.map_nil] at r; cases r; rfl
  | p :: ps, us, r => by
    rw [List.map_cons] at r
    cases r with
    | cons h t => cases h; rw [List.map_cons, ← refs_pT t]
theorem call_dictT (hcalm : X.calm = true) (hu : X.A.units + 64 < cLine) : CallR X (.type "dict") (fun xs H Q => ∃ (a : Addr) (ps : List (Addr × Addr)) (kvs : List (List Key × V)), xs = [.ref a] ∧
    SqL X.K H a (ps.map fun p => V.ref p.1) ∧ Paired (PairT X.K H) ps kvs ∧ ∀ p, H p = none → Q (.ref p) (upd H p (.dT (mergeT [] kvs)))) := by
  intro pins s σ H zs us Q I r q
  obtain ⟨a, ps, kvs, ez, hq, hp, q⟩ := q
  subst ez
  obtain ⟨u, eu, rx⟩ := vals1 r
  subst eu
  cases rx
  obtain ⟨its, rv, pl, hz⟩ := I.list hq
  have ei := refs_pT rv
  subst ei
  obtain ⟨xs, rel, hl, hx⟩ := tripT I hp
  obtain ⟨o, n, ho, hc, hd, hdat⟩ := pl
  have hz' : ps.length ≤ sizeLine := by simpa using hz
  have hkey : ∀ x ∈ xs, (tupleKind (mixKind X.prog X.w)).is s.heap x.1 x.2.1 := fun x hxm => key_of I.hok (kt_at rel x hxm)
  have hps : ∀ (j : Nat) (k v : Value), (xs.map fun x => (Value.ref x.2.1, x.2.2))[j]? = some (k, v) → ∃ q, xs[j]? = some q ∧ k = .ref q.2.1 ∧ v = q.2.2 := fun j k v e => by
    rw [List.getElem?_map] at e
    cases hq' : xs[j]? with
    | none => rw [hq'] at e; exact nomatch e
    | some q' => rw [hq'] at e; cases e; exact ⟨q', rfl, rfl, rfl⟩
  refine call_dict_pairsH (knd := tupleKind (mixKind X.prog X.w)) (ps := xs)
    (PairArg.list a _ (fun j => ((ps[j]?).map (·.1)).getD 0) (xs.map fun x => (Value.ref x.2.1, x.2.2))) (I.ok.hd hcalm) (show X.A.units + 1 + 1 < cLine by omega)
    ⟨⟨o, n, ho, hc, hd, hdat⟩, ⟨by simp [hl], fun j k v e => ?_⟩⟩ ⟨by simp, fun i k v e => ?_⟩ (fun h' hk x hxm => ?_) (by simpa [hl] using hz') fun h' tk hd' hk => ?_
  · obtain ⟨q', e1, rfl, rfl⟩ := hps j k v e
    obtain ⟨b, e2, _, ht⟩ := hx j q' e1
    have e3 : ((ps[j]?).map (·.1)).getD 0 = b.1 := by rw [e2]; rfl
    show _ ∧ PairAt s.heap (((ps[j]?).map (·.1)).getD 0) _ _
    rw [e3]
    exact ⟨by show _ = some (Value.ref (((ps[j]?).map (·.1)).getD 0)); rw [e3]; simp [e2], .inl ht⟩
  · obtain ⟨q', e1, rfl, rfl⟩ := hps i k v e
    exact ⟨q'.1, q'.2.1, e1, rfl⟩
  · obtain ⟨o', its', n', h1, h2⟩ := hkey x hxm
    exact ⟨o', its', n', hk _ _ (Nat.ne_of_lt (Heap.lt_size h1)) (fun z => nomatch z) h1, h2⟩
  · have hm : (s.heap.objs.size == sysModules) = false := beq_eq_false_iff_ne.mpr (Nat.ne_of_gt I.big)
    have hlen : (mergeT [] kvs).length ≤ sizeLine := by
      have h1 := Paired.length (mergeT_kt rel (m := []) (ms := []) .nil)
      have h2 := storedAllH_length xs ([] : List (List Key × Addr × Value))
      rw [List.length_nil, Nat.zero_add] at h2
      rw [h1]
      exact Nat.le_trans h2 (by rw [hl]; exact hz')
    obtain ⟨q', es, ep, g1, g2, g3, g4, _, g5⟩ := hd'
    refine ⟨.ref s.heap.objs.size, upd H s.heap.objs.size (.dT (mergeT [] kvs)), I.laid (t' := tk) (fun b o' e => hk b o' (fun z => nomatch z) e) (Nat.le_refl _) ⟨hlen, hm, _, (mergeT_kt rel .nil).keeps fun c ys ec => ?_, q', es, ep, g1, g2, g3, g4, g5⟩,
      rfl, q _ (I.hok.fresh (Nat.le_refl _))⟩
    rw [upd_ne (ne_of_none ec (I.hok.fresh (Nat.le_refl _)))]
    exact ec
end
section
variable {β : Type} [Py β] {F H : Hp}
def mergeDT (xs : List ((Int × Int) × β)) : List ((Int × Int) × β) := xs.foldl (fun m p => dPut m p.1 p.2) []
theorem mergeT_rd {kvs : List (List Key × V)} {xs : List ((Int × Int) × β)} (hs : RD F kvs xs) : ∀ {m : List (List Key × V)} {ms : List ((Int × Int) × β)}, RD F m ms → RD F (mergeT m kvs) (xs.foldl (fun m p => dPut m p.1 p.2) ms) := by
  induction hs with
  | nil => intro m ms h; exact h
  | @cons k v y kvs xs hv _ ih =>
    intro m ms h
    exact ih (h.put k hv)
theorem pairsT_of_rl {K : PySem.W.Frag} (s : Same F H) : ∀ {vs : List V} {xs : List ((Int × Int) × β)}, RL F vs xs → ∃ (ps : List (Addr × Addr)) (kvs : List (List Key × V)),
    vs = (ps.map fun p => V.ref p.1) ∧ Paired (PairT K H) ps kvs ∧ RD F kvs xs
  | _, [], h => ⟨[], [], RL.nil_ h, .nil, .nil⟩
  | _, x :: xs, h => by
    obtain ⟨w, ws, rfl, h1, h2⟩ := RL.cons_ h
    obtain ⟨ps, kvs, e, hp, hr⟩ := pairsT_of_rl (K := K) s h2
    obtain ⟨p, v1, v2, rfl, hp1, h3, h4⟩ := R.t2_ h1
    obtain ⟨b, w1, w2, rfl, hb, h5, h6⟩ := R.t2_ h3
    rw [R.int_ h5, R.int_ h6] at hb
    exact ⟨(p, b) :: ps, ([.inl x.1.1, .inl x.1.2], v2) :: kvs, by rw [e]; rfl, .cons ⟨SqT.of (s _ _ hp1), s _ _ hb⟩ hp, .cons (k := x.1) h4 hr⟩
end
/-! ### max and min of a list -/
def mxI : List Int → Option Int
  | [] => none
  | x :: xs => match mxI xs with
    | none => some x
    | some m => some (if m < x then x else m)
def mnI : List Int → Option Int
  | [] => none
  | x :: xs => match mnI xs with
    | none => some x
    | some m => some (if x < m then x else m)
theorem mxI_none : ∀ {xs : List Int}, mxI xs = none → xs = []
  | [], _ => rfl
  | x :: xs, h => by
    unfold mxI at h
    cases e : mxI xs <;> rw [e] at h <;> exact nomatch h
theorem mnI_none : ∀ {xs : List Int}, mnI xs = none → xs = []
  | [], _ => rfl
  | x :: xs, h => by
    unfold mnI at h
    cases e : mnI xs <;> rw [e] at h <;> exact nomatch h
theorem mxI_is : ∀ {xs : List Int} {m : Int}, mxI xs = some m → m ∈ xs ∧ ∀ y ∈ xs, y ≤ m
  | [], _, h => nomatch h
  | x :: xs, m, h => by
    unfold mxI at h
    cases e : mxI xs with
    | none =>
      rw [e] at h
      cases h
      rw [mxI_none e]
      exact ⟨List.mem_cons_self, fun y hy => by rw [List.mem_singleton.mp hy]; exact Int.le_refl _⟩
    | some n =>
      rw [e] at h
      obtain ⟨h1, h2⟩ := mxI_is e
      have h : (if n < x then x else n) = m := Option.some.inj h
      by_cases z : n < x
      · rw [if_pos z] at h
        subst h
        refine ⟨List.mem_cons_self, fun y hy => ?_⟩
        rcases List.mem_cons.mp hy with hy | hy
        · omega
        · have := h2 y hy; omega
      · rw [if_neg z] at h
        subst h
        refine ⟨List.mem_cons_of_mem _ h1, fun y hy => ?_⟩
        rcases List.mem_cons.mp hy with hy | hy
        · omega
        · exact h2 y hy
theorem mnI_is : ∀ {xs : List Int} {m : Int}, mnI xs = some m → m ∈ xs ∧ ∀ y ∈ xs, m ≤ y
  | [], _, h => nomatch h
  | x :: xs, m, h => by
    unfold mnI at h
    cases e : mnI xs with
    | none =>
      rw [e] at h
      cases h
      rw [mnI_none e]
      exact ⟨List.mem_cons_self, fun y hy => by rw [List.mem_singleton.mp hy]; exact Int.le_refl _⟩
    | some n =>
      rw [e] at h
      obtain ⟨h1, h2⟩ := mnI_is e
      have h : (if x < n then x else n) = m := Option.some.inj h
      by_cases z : x < n
      · rw [if_pos z] at h
        subst h
        refine ⟨List.mem_cons_self, fun y hy => ?_⟩
        rcases List.mem_cons.mp hy with hy | hy
        · omega
        · have := h2 y hy; omega
      · rw [if_neg z] at h
        subst h
        refine ⟨List.mem_cons_of_mem _ h1, fun y hy => ?_⟩
        rcases List.mem_cons.mp hy with hy | hy
        · omega
        · exact h2 y hy
theorem mxI_uq {xs : List Int} {m n : Int} (h : mxI xs = some m) (h1 : n ∈ xs) (h2 : ∀ y ∈ xs, y ≤ n) : m = n := by
  have a := mxI_is h
  have b := a.2 n h1
  have c := h2 m a.1
  omega
theorem mnI_uq {xs : List Int} {m n : Int} (h : mnI xs = some m) (h1 : n ∈ xs) (h2 : ∀ y ∈ xs, n ≤ y) : m = n := by
  have a := mnI_is h
  have b := a.2 n h1
  have c := h2 m a.1
  omega
section
variable {X : Cx} {K : PySem.W.Frag}
theorem cr_maxK (hc : X.calm = true) (h : X.K = K) : CallR X (.builtin "max") (rMax K) := by rw [← h]; exact cr_max hc
theorem cr_minK (hc : X.calm = true) (h : X.K = K) : CallR X (.builtin "min") (rMin K) := by rw [← h]; exact cr_min hc
end
end PG

set_option Elab.async false
set_option linter.all false
set_option maxRecDepth 100000
set_option maxHeartbeats 4000000
namespace PG
open PySem PySem.Spec PyProof.Rows L2
open PySem.W (T3 T4 Datum DatumOrd Holds HoldAll EachIs)
/-! ### an exception that was caught and is kept: tracked from then on -/
def excAt (cls : Value) (d : Option Addr) (a : Addr) : Heap → Prop := fun h => ∃ o vs, h.get? a = some o ∧ Zc cls d o ∧ o.data = .fields vs
def excO (cls : Value) (d : Option Addr) (a : Addr) : HO := .ext (excAt cls d a)
section
variable {X : Cx} {pins : List (Addr × Obj)} {σ : L2.St} {H : Hp} {s : Shared}
theorem adopt {a : Addr} {cls : Value} {d : Option Addr} (I : L2.Inv X pins σ H s) (ha : H a = none) (hp : excAt cls d a s.heap) (h0 : X.s_0.heap.get? a = none) (nL : a ≠ X.env.locals) (np : ∀ p ∈ X.pn ++ pins, p.1 ≠ a) :
    L2.Inv X pins σ (upd H a (excO cls d a)) s := by
  obtain ⟨o, vs, ho, hz, hd⟩ := id hp
  have keep : ∀ {b : Addr} {u : HO}, H b = some u → upd H a (excO cls d a) b = some u := fun {b u} q => (upd_ne (ne_of_none q ha)).trans q
  have bare : ∀ {b : Addr}, b ≠ a → H b = none → upd H a (excO cls d a) b = none := fun {b} z q => (upd_ne z).trans q
  refine ⟨I.ok, I.os, I.bare, ⟨I.base.keep, I.base.slot, fun b u q n hx => bare (fun z => ?_) (I.base.free b u q n hx), I.base.there, fun b xs q => keep (I.base.tups b xs q), fun b u v q => keep (I.base.frzs b u v q), fun b ps q => ?_⟩, I.loc, I.cell, bare (Ne.symm nL) I.free, fun y k e => bare (fun z => ?_) (I.freeC y k e), fun p hq => ?_, ?_, I.len⟩
  · rw [z, h0] at q; exact nomatch q
  · obtain ⟨more, r⟩ := I.base.tbls b ps q
    exact ⟨more, keep r⟩
  · obtain ⟨v, w, hw, hv⟩ := I.cell y k e
    rw [z, ho] at hw
    cases hw
    rw [hd] at hv
    exact nomatch hv
  · obtain ⟨q1, q2, q3⟩ := I.pin p hq
    exact ⟨q1, bare (np p hq) q2, q3⟩
  · exact L2.HOk.laidN I.hok (fun _ _ q => q) ha ⟨hp, ⟨o, ho⟩, fun g1 g2 x k => x.imp fun o' y => y.imp fun vs' z => ⟨k _ z.1, z.2⟩⟩
end
/-- what the clause 'except x as n', whose suite keeps the exception, wishes -/
def wKeep (K : PySem.W.Frag) (c : Value) (i : Nat) (ts : Addr → TS) (out : WX) (D : Ends) : WX := fun cls d σ H =>
  ∃ b, PySem.W.exmOne K cls c = some b ∧ (b = true → ∀ a, H a = none → ts a { nx := fun σ' H' => D.nx (σ'.set i none) (upd H' a (excO cls d a)), rt := fun _ _ => False, bk := fun _ _ => False, ct := fun _ _ => False } (σ.set i (some (.ref a))) H) ∧ (b = false → out cls d σ H)
section
variable {X : Cx} {x n : Str} {c : Value} {i : Nat} {body suite : List Stmt} {b1 : Stmt} {np q1 q2 : Pos} {tb : WX → TS} {ts : Addr → TS} {out : WX}
theorem ps_try_keep (hs : X.stack = X.env :: X.outer) (hf : X.env.frame = some X.env.locals) (hex : X.ex = []) (hN : X.N.Nodup) (hi : X.N[i]? = some n) (hl : X.env.kindOf n = some .local) (hc : Names X x c) (tk : Takes X out)
    (hb : ∀ (W : WX) (pn : List (Addr × Obj)) (xe : Value → Shared → Prop), Takes (X.tr pn xe) W → PassesOwn (model X.prog X.w) X.A X.env xe → PSs (X.tr pn xe) body (tb W))
    (hsu : ∀ (a : Addr) (o : Obj) (pn : List (Addr × Obj)), PSs (X.suite a ((a, o) :: pn)) (b1 :: suite) (ts a)) :
    PS X (.Try body [.ExceptHandler (some (.Name x np)) (some n) (b1 :: suite) q1] [] [] q2) (fun D σ H => tb (wKeep X.K c i ts out D) D σ H) := by
  refine ⟨fun pins s σ H D I wish => wpAny_Try_except ?_⟩
  have ok := I.ok
  have hfr : X.A.frames = some (X.env :: X.outer) := ok.frames.trans (by rw [hs])
  have run := (hb (wKeep X.K c i ts out D) (X.pn ++ pins) (fun e g1 => wpAny (model X.prog X.w) X.A (noteFrame e X.env) (fun _ g2 => wpAny (model X.prog X.w) X.A (setFlight e none)
    (fun _ g3 => wpAny (model X.prog X.w) X.A (handleBy e X.env [.ExceptHandler (some (.Name x np)) (some n) (b1 :: suite) q1]) (SP X pins D) X.xe g3) X.xe g2) X.xe g1)
    (fun u g ⟨a, B, sI, ps, τ, G, cls, d, eu, J0, nb, up, sky, na, eos, ag, b, hb1, yes, no⟩ => by
      subst eu
      have J : L2.Inv X pins τ G sI := J0.ofTry ok
      show wpAny (model X.prog X.w) X.A (noteFrame (.ref a) X.env) _ _ _
      refine Sky.land Zc.steady hfr hf (show Sky B (X.env :: X.outer) a (Zc cls d) X.env.locals g.heap by rw [← hs]; exact sky) fun k1 fl1 up1 => ?_
      have J1 : L2.Inv X pins τ G { g with heap := k1 } := J.landed nb fl1.1 (up.trans up1) eos ag
      obtain ⟨o1, vs1, ho1, hz1, hd1⟩ := fl1.there
      have off : a ∉ frs (X.env :: X.outer) := fun hm => by
        obtain ⟨_, o', eo, hnf⟩ := fl1.2.2.1.mem hm
        rw [ho1] at eo
        cases eo
        exact hnf _ hd1
      have nL : a ≠ X.env.locals := fun z => off (List.mem_filterMap.mpr ⟨X.env, List.mem_cons_self, by rw [hf, z]⟩)
      have nF : a ∉ X.fs := fun hm => by
        obtain ⟨e, he, q⟩ := List.mem_filterMap.mp hm
        exact off (List.mem_filterMap.mpr ⟨e, List.mem_cons_of_mem _ he, q⟩)
      have young : ∀ o, sI.heap.get? a ≠ some o := fun o q => by
        have z := nb a o q (by rw [hs]; exact off)
        rw [fl1.2.1] at z
        exact nomatch z
      have h0 : X.s_0.heap.get? a = none := by
        cases q : X.s_0.heap.get? a with
        | none => rfl
        | some o =>
          obtain ⟨o', z⟩ := J.base.there a o q (by rw [hex]; exact fun z => nomatch z)
          exact (young _ z).elim
      have offp : ∀ p ∈ X.pn ++ pins, p.1 ≠ a := fun p hp z => young p.2 (by rw [← z]; exact (J.pin p hp).1)
      have S1 := J1.suite ho1 hd1 na nL nF
      refine wpAny_handleBy_cons (codeAny_handlers_test ?_) (fun q => nomatch q)
      have look : PySem.W.Looks (model X.prog X.w) k1 (typeOf (.ref a)) cls := fun _ _ _ _ k q => wpAny_typeOf_ref (k _ _ ho1) (by rw [hz1.1]; exact q)
      have match_ := PySem.W.exm_one (M := model X.prog X.w) J1.kIn look hb1
      have named : ∀ {Q : Value → Shared → Prop} {E : Value → Shared → Prop}, Q c { g with heap := k1 } → wpAny (model X.prog X.w) (X.A.mark (some (.ref a))) (eval (.Name x np) X.env) Q E { g with heap := k1 } := fun {Q E} q => by
        obtain ⟨hg, hdbg, hm | ⟨hm, hv, hnn⟩⟩ := hc
        · exact ld_glob (X := X.suite a ((a, o1) :: (X.pn ++ pins))) S1 hg hm q hdbg
        · exact ld_blt (X := X.suite a ((a, o1) :: (X.pn ++ pins))) S1 hg hm hv q hnn hdbg
      refine named (match_.here ?_)
      cases b with
      | true =>
        refine codeAny_handlers_suite_as (HandSPX.lands_againZ fl1 fun k2 fl2 up2 => ?_)
        have J2 : L2.Inv X pins τ G { g with heap := k2 } := J.landed nb fl2.1 ((up.trans up1).trans up2) eos ag
        obtain ⟨o2, vs2, ho2, hz2, hd2⟩ := fl2.there
        refine store_ok (X := X.suite a ((a, o2) :: (X.pn ++ pins))) (v := .ref a) (J2.suite ho2 hd2 na nL nF) hN hi (.inl hl) rfl (fun g5 S5 => ?_) (.inr hl)
        refine wpAny_mono ((hsu a o2 (X.pn ++ pins)).run [] g5 _ G _ S5 (yes rfl a na)) (fun f g6 hsp => ?_) (fun _ _ z => z.elim)
        cases f with
        | next =>
          obtain ⟨τ6, G6, S6, q6⟩ := hsp
          refine gone_ok (X := X.suite a ((a, o2) :: (X.pn ++ pins))) S6 hN hi hl fun g7 S7 => ?_
          obtain ⟨hget, hn7, _⟩ := S7.pin (a, o2) (List.mem_append_left _ List.mem_cons_self)
          exact ⟨_, _, adopt (S7.unsuite ok) hn7 ⟨o2, vs2, hget, hz2, hd2⟩ h0 nL offp, q6⟩
        | brk => obtain ⟨_, _, _, q6⟩ := hsp; exact q6.elim
        | cont => obtain ⟨_, _, _, q6⟩ := hsp; exact q6.elim
        | ret u => obtain ⟨_, _, _, _, _, q6⟩ := hsp; exact q6.elim
      | false =>
        refine wpAny_handleBy_nil ?_
        obtain ⟨_, _, _, o3, vs3, T, oT, ts3, he, hz, hd, h1, hr⟩ := id fl1
        unfold PySem.passOn
        refine wpAny_bind (wpAny_field he hd h1 ?_)
        rw [if_neg (by simp : ¬ ((Value.ref T == Value.none) = true))]
        have up_ : wpAny (model X.prog X.w) X.A (setFlight (.ref a) X.env.frame) (fun _ g4 => wpAny (model X.prog X.w) X.A (throw (.ref a) : Sem Flow) (SP X pins D) X.xe g4) X.xe { g with heap := k1 } := by
          rw [hf]
          exact HandSPX.setFlight_upZ fl1 fun k2 fl2 up2 => wpAny_throw (tk _ _ ⟨a, B, sI, pins, τ, G, cls, d, rfl, J, nb, (up.trans up1).trans up2, .inr (.inr (by rw [hs]; exact fl2)), na, eos, ag, no rfl⟩)
        first
          | exact wpAny_bind up_
          | exact wpAny_bind (wpAny_pure (wpAny_bind up_)))
    PassesOwn.looking).run [] s σ H D (I.toTry _) wish
  refine wpAny_mono run (fun f g hsp => ?_) (fun _ _ z => z)
  cases f with
  | next => obtain ⟨τ, G, J, q⟩ := hsp; exact wpAny_execs_nil ⟨τ, G, J.ofTry ok, q⟩
  | brk => obtain ⟨τ, G, J, q⟩ := hsp; exact ⟨τ, G, J.ofTry ok, q⟩
  | cont => obtain ⟨τ, G, J, q⟩ := hsp; exact ⟨τ, G, J.ofTry ok, q⟩
  | ret u => obtain ⟨v, τ, G, J, r, q⟩ := hsp; exact ⟨v, τ, G, J.ofTry ok, r, q⟩
end
/-! ### isinstance of what was caught -/
section
variable {X : Cx}
theorem inst_of {a D : Addr} {h : Heap} (x : excAt (.ref D) none a h) : ∃ o, PySem.W.InstAt h a o D none := by
  obtain ⟨⟨oc, od, oda, osl⟩, vs, hg, ⟨h1, h2⟩, h3⟩ := x
  dsimp only at h1 h2 h3
  subst h1 h2 h3
  exact ⟨_, hg, rfl, rfl, trivial⟩
/-- whose class is t: what was caught, or a value of a built-in type -/
inductive KX (K : PySem.W.Frag) (H : Hp) : V → Value → Prop where
  | exc {a D : Addr} (e : H a = some (excO (.ref D) none a)) (c : ExcC K D) : KX K H (.ref a) (.ref D)
  | base {x : V} {t : Value} (h : TyX K H x t) : KX K H x t
theorem kx_of {pins : List (Addr × Obj)} {σ : L2.St} {H : Hp} {s : Shared} {x : V} {u t : Value} (I : L2.Inv X pins σ H s) (rx : RelV x u) (k : KX X.K H x t) : ∃ P : Heap → Prop, PySem.W.KitX X.K u t P ∧ P s.heap ∧ u ≠ .builtin "__main__.__loader__#opaque" := by
  cases k with
  | @exc a D e C =>
    cases (show u = Value.ref a from rx)
    obtain ⟨o, J⟩ := inst_of (show excAt (.ref D) none a s.heap from (I.hok a _ e).1)
    exact ⟨_, PySem.W.handS_kitx_exc C.hg C.hk C.hs C.hd C.ha C.hn C.ht C.hm, J, fun z => nomatch z⟩
  | base h => exact kit_of I rx h
def rIsU (K : PySem.W.Frag) : List V → Hp → VK → Prop := fun xs H Q => ∃ (x c : V) (t u : Value) (b : Bool), xs = [x, c] ∧ ClsV c u ∧ KX K H x t ∧ PySem.W.kitOne K t u = some b ∧ Q (.bl b) H
theorem isuK {K : PySem.W.Frag} (hK : X.K = K) : CallR X (.builtin "isinstance") (rIsU K) := by
  subst hK
  intro pins s σ H xs us Q I r ⟨x, c, t, u, b, ex, hc, k, e, q⟩
  subst ex
  obtain ⟨u1, u2, rfl, r1, r2⟩ := vals2 r
  cases hc.eq r2
  obtain ⟨P, Z, p, hx⟩ := kx_of I r1 k
  exact PySem.W.kia_one Z I.kIn p e hx fun tk => ⟨.bl b, H, I.tok tk, rfl, q⟩
def rIsUT (K : PySem.W.Frag) : List V → Hp → VK → Prop := fun xs H Q => ∃ (x : V) (tp : Addr) (cs : List V) (t : Value) (ws : List Value) (b : Bool), xs = [x, .ref tp] ∧ H tp = some (.tup cs) ∧ Paired ClsV cs ws ∧ KX K H x t ∧ PySem.W.kitAny K t ws = some b ∧ Q (.bl b) H
theorem isutK {K : PySem.W.Frag} (hK : X.K = K) : CallR X (.builtin "isinstance") (rIsUT K) := by
  subst hK
  intro pins s σ H xs us Q I r ⟨x, tp, cs, t, ws, b, ex, hT, hc, k, e, q⟩
  subst ex
  obtain ⟨u1, u2, rfl, r1, r2⟩ := vals2 r
  cases (show u2 = Value.ref tp from r2)
  obtain ⟨P, Z, p, hx⟩ := kx_of I r1 k
  obtain ⟨_, its, rv, ⟨oc, od, dt, sl⟩, h1, h2, n, h3⟩ := (show ObjOk X.prog X.w H s.heap tp (.tup cs) from I.hok tp _ hT)
  have e3 := ClsV.all hc rv
  subst e3
  dsimp only at h2 h3
  subst h2 h3
  exact PySem.W.kia_tup Z I.kIn p h1 e hx fun tk => ⟨.bl b, H, I.tok tk, rfl, q⟩
end
theorem kit_own {K : PySem.W.Frag} {t : Value} {C : Addr} {b : Bool} (hd : PySem.W.hasDictIn K C = true) (ht : PySem.W.typeIn K (.ref C) = some (.type "type")) (hs : PySem.W.subIn K t (.ref C) = some b) (ho : PySem.W.subIn K (.ref C) (.ref C) = some true) : PySem.W.kitOne K t (.ref C) = some b := by
  obtain ⟨cd, hc, _⟩ := PySem.W.any_some hd
  unfold PySem.W.kitOne PySem.W.kitCls
  by_cases z : (t == .ref C) = true
  · rw [if_pos z]
    have z := beq_iff_eq.mp z
    subst z
    exact ho.symm.trans hs
  · rw [if_neg z]
    show (if ((PySem.W.clsIn K C).isSome && PySem.W.typeIn K (.ref C) == some (.type "type")) = true then _ else _) = _
    rw [if_pos (by rw [hc, ht]; rfl)]
    exact hs
theorem kit_blt {K : PySem.W.Frag} {D : Addr} {T : String} {b : Bool} (hm : PySem.W.kitMeta T = true) (hs : PySem.W.subIn K (.ref D) (.type T) = some b) : PySem.W.kitOne K (.ref D) (.type T) = some b := by
  unfold PySem.W.kitOne PySem.W.kitCls
  rw [if_neg (by simp)]
  show (if PySem.W.kitMeta T = true then _ else _) = _
  rw [if_pos hm]
  exact hs
theorem any_no {K : PySem.W.Frag} {t c : Value} {cs : List Value} {r : Bool} (h : PySem.W.kitOne K t c = some false) (hr : PySem.W.kitAny K t cs = some r) : PySem.W.kitAny K t (c :: cs) = some r := kitAny_cons h (fun _ => hr) fun z => nomatch z
theorem any_yes {K : PySem.W.Frag} {t c : Value} {cs : List Value} (h : PySem.W.kitOne K t c = some true) : PySem.W.kitAny K t (c :: cs) = some true := kitAny_cons h (fun z => nomatch z) fun _ => rfl
/-! ### a call within a try -/
def tCallW (sp : Sp) (W : WX) (t : TA) : TE := fun σ H Q => t σ H fun vs H1 => sp vs H1 Q fun cls d H' => W cls d σ H'
theorem pe_callW {X : Cx} {k : Nat} {f : Addr} {fd : FuncData} {ps : List Str} {sp : Sp} {W : WX} {x : Str} {p pos : Pos} {e : Expr} {es : List Expr} {t : TA} (F : FnOk X.prog X.w X.K X.mg X.base (L2.CX X.prog X.w) k f fd ps sp) (hr : Room k X.A) (hg : Gl X x) (hm : X.mg x = some (.ref f)) (hk : PySem.W.keepIn X.K (.ref f) = true) (hb : Binds X.K fd ps [])
    (tk : Takes X W) (ha : PA X (e :: es) t) (hdb : (x == ("__debug__" : Str)) = false := by decide) (he : starEach (e :: es) X.env = (false, eval e X.env) :: starEach es X.env := by rfl) (hpl : (backTo pos (starEach es X.env)).any (·.1) = false := by rfl) :
    PE X (.Call (.Name x p) (e :: es) [] pos) (tCallW sp W t) := by
  refine ⟨fun pins s σ H Q I h => wpAny_Call_Name_kw (ld_glob I hg hm ?_ hdb)⟩
  refine PySem.W.callWith_K (h₀ := X.base) I.ok.mod.kin hk (thn (ha.run pos pins s σ H _ I h) fun us g ⟨vs, G, J, r, q⟩ => ⟨J.kIn, ?_⟩) he hpl
  have hl : us.length = ps.length := by rw [← r.length]; exact F.len _ _ _ _ q
  refine wpAny_call (codeAny_mono (F.run X.A X.stack g G ⟨us, []⟩ us vs Q (fun cls d H' => W cls d σ H') hr J.env0 (by have := hb g us J.kIn (by simpa using hl); simpa using this) r q) fun res g' hq => ?_)
  cases res with
  | error z => exact tk _ _ (XE.of_call J (fun _ _ _ h => h) hq)
  | ok fl =>
    cases fl with
    | ret u => exact J.after hq
    | next => exact hq.elim
    | brk => exact hq.elim
    | cont => exact hq.elim
/-- try: m, except one of those of L: k1, else k0 -/
def tryK {a : Type} (L : List String) (m : M Unit) (k0 : M a) (k1 : String → M a) : M a := match m with
  | .ok _ => k0
  | .error .bad => bad
  | .error (.exc n) => if n ∈ L then k1 n else bad
theorem wp_tryK {b : Type} {L : List String} {m : M Unit} {k0 : M b} {k1 : String → M b} {Q : b → Prop} {E : String → Prop} (h : wp (tryK L m k0 k1) Q E) : wp m (fun _ => wp k0 Q E) fun n => n ∈ L ∧ wp (k1 n) Q E := by
  cases m with
  | ok x => exact h
  | error e =>
    cases e with
    | bad => exact h
    | exc n =>
      by_cases z : n ∈ L
      · have e : tryK L (.error (.exc n)) k0 k1 = k1 n := if_pos z
        rw [e] at h
        exact ⟨z, h⟩
      · have e : tryK L (.error (.exc n)) k0 k1 = bad := if_neg z
        rw [e] at h
        exact h.elim
theorem wp_okE {a : Type} {x : a} {Q : a → Prop} {E : String → Prop} (h : wp (.ok x : M a) Q E) : Q x := h
theorem Ow.exc {Z : Ent} {F H H1 : Hp} {cs : List (Addr × HO)} (O : Ow Z F cs H) (k : Kp [] H H1) : Ow Z F cs H1 where
  g := {
    f := O.g.f
    s := fun b o e => k.k b o (fun z => nomatch z) (O.g.s b o e)
    k := fun b o hb e => k.k b o (fun z => nomatch z) (O.g.k b o hb e)
    t := fun b h => k.t b (O.g.t b h)
    n := O.g.n
    u := fun b xs e => by
      cases q : H b with
      | none =>
        left
        cases z : Z.H b with
        | none => rfl
        | some o => exact (O.g.t b (by rw [z]; exact fun w => nomatch w) q).elim
      | some o =>
        have := k.k b o (fun z => nomatch z) q
        rw [e] at this
        cases this
        exact O.g.u b xs q }
  cf := O.cf
  ch := fun c hc => k.k _ _ (fun z => nomatch z) (O.ch c hc)
  nd := O.nd
  ca := O.ca
  nt := O.nt
theorem mem1 {n a : String} (h : n ∈ [a]) : n = a := List.mem_singleton.mp h
theorem mem2 {n a b : String} (h : n ∈ [a, b]) : n = a ∨ n = b := by simpa using h
/-! ### lists of truths: count, index -/
theorem RL.bools {H : Hp} : ∀ {vs : List V} {xs : List Bool}, RL H vs xs → vs = xs.map V.bl
  | _, [], h => RL.nil_ h
  | _, x :: xs, h => by
    obtain ⟨w, ws, rfl, h1, h2⟩ := RL.cons_ h
    rw [R.bl_ h1, RL.bools h2]
    rfl
def cntB (k : Bool) : List Bool → Int
  | [] => 0
  | y :: r => (if y = k then 1 else 0) + cntB k r
theorem cnt_in (k : Bool) : ∀ bs : List Bool, PySem.Spec.countIn (.bool k) (bs.map PyData.bool) = cntB k bs
  | [] => rfl
  | b :: bs => by
    show (if same (PyData.bool b) (PyData.bool k) = true then (1 : Int) else 0) + PySem.Spec.countIn _ _ = _
    rw [cnt_in k bs]
    cases b <;> cases k <;> rfl
theorem bools_vals : ∀ {bs : List Bool} {its : List Value}, Vals (bs.map V.bl) its → its = bs.map Value.bool
  | [], its, r => by rw [List.map_nil] at r; cases r; rfl
  | b :: bs, its, r => by
    rw [List.map_cons] at r
    cases r with
    | cons h t => cases h; rw [List.map_cons, ← bools_vals t]
theorem reads_bools {hp : Heap} : ∀ bs : List Bool, ReadsAll hp (bs.map Value.bool) (bs.map PyData.bool) []
  | [] => .nil
  | b :: bs => .cons (as := []) (bs := []) (.bool b) (reads_bools bs)
def rCntB (K : PySem.W.Frag) : V → List V → Hp → VK → Prop := fun x xs H Q => ∃ (a : Addr) (bs : List Bool) (k : Bool), x = .ref a ∧ xs = [.bl k] ∧ SqL K H a (bs.map V.bl) ∧ Q (.int (cntB k bs)) H
theorem countBK {X : Cx} {K : PySem.W.Frag} (hK : X.K = K) : MtR X "list.count" (rCntB K) := by
  subst hK
  intro pins s σ H x xs v us Q I rx r ⟨a, bs, k, ex, exs, hs, q⟩
  subst ex exs
  cases rx
  obtain ⟨u, rfl, ru⟩ := vals1 r
  cases ru
  obtain ⟨its, rv, pl, _⟩ := I.list hs
  cases bools_vals rv
  refine count_list_bools (hp := s.heap) (xs := bs.map PyData.bool) pl.isList (reads_bools bs) (List.all_eq_true.mpr fun y hy => ?_) ?_
  · obtain ⟨b, _, rfl⟩ := List.mem_map.mp hy
    rfl
  · rw [cnt_in]
    exact ⟨.int (cntB k bs), H, I.tok _, ⟨_, rfl⟩, q⟩
def ixB (xs : List Bool) (y : Bool) : M Int := if y ∈ xs then .ok ((xs.findIdx (· == y) : Nat) : Int) else bad
theorem wp_ixB {a : Type} {Q : a → Prop} {E : String → Prop} {xs : List Bool} {y : Bool} {k : Int → M a} (h : wp (ixB xs y >>= k) Q E) : ∃ j, xs.findIdx (· == y) = j ∧ xs[j]? = some y ∧ (∀ (m : Nat) z, m < j → xs[m]? = some z → z ≠ y) ∧ wp (k (j : Int)) Q E := by
  unfold ixB at h
  by_cases hm : y ∈ xs
  · rw [if_pos hm] at h
    have hlt : xs.findIdx (· == y) < xs.length := List.findIdx_lt_length_of_exists ⟨y, hm, by simp⟩
    refine ⟨_, rfl, ?_, fun m z hmj hz e => ?_, h⟩
    · rw [List.getElem?_eq_getElem hlt]
      have := List.findIdx_getElem (w := hlt)
      rw [eq_of_beq this]
    · have := List.not_of_lt_findIdx hmj
      obtain ⟨hl, hz⟩ := List.getElem?_eq_some_iff.mp hz
      rw [hz, e] at this
      simp at this
  · rw [if_neg hm] at h; exact h.elim
theorem all_flat_bl : ∀ xs : List Bool, (xs.map V.bl).all flatV = true
  | [] => rfl
  | x :: xs => by rw [List.map_cons, List.all_cons, all_flat_bl xs]; rfl
theorem bl_noeq {xs : List Bool} {y : Bool} {j : Nat} (h : ∀ (m : Nat) z, m < j → xs[m]? = some z → z ≠ y) : ∀ (m : Nat) (z' : V), m < j → (xs.map V.bl)[m]? = some z' → eqV z' (.bl y) = false := fun m z' hm hz => by
  rw [List.getElem?_map] at hz
  cases e : xs[m]? with
  | none => rw [e] at hz; cases hz
  | some z =>
    rw [e] at hz
    have hz : V.bl z = z' := Option.some.inj hz
    subst hz
    have := h m z hm e
    revert this
    cases z <;> cases y <;> intro this <;> first | rfl | exact (this rfl).elim
theorem bl_at {xs : List Bool} {y : Bool} {j : Nat} (h : xs[j]? = some y) : (xs.map V.bl)[j]? = some (.bl y) := by rw [List.getElem?_map, h]; rfl
theorem bl_eq {y : Bool} : eqV (.bl y) (.bl y) = true := by cases y <;> rfl
/-- x in xs, of data that are no scalars -/
def inD {a : Type} [DecidableEq a] (x : a) (xs : List a) : Prop := x ∈ xs
instance {a : Type} [DecidableEq a] (x : a) (xs : List a) : Decidable (inD x xs) := @List.instDecidableMemOfLawfulBEq a instBEqOfDecidableEq _ x xs
theorem iteDx {c A B : Prop} {i : Decidable c} (h1 : c → A) (h2 : ¬ c → B) : if @decide c i = true then A else B := @iteD c A B i h1 h2
theorem iteNx {c A B : Prop} {i : Decidable c} (h1 : c → B) (h2 : ¬ c → A) : if (!@decide c i) = true then A else B := @iteN c A B i h1 h2
theorem sl43 (a b c d : V) : ¬ (HT.sIx [a, b, c, d].length 0 none = 0 ∧ HT.sIx [a, b, c, d].length [a, b, c, d].length (some (3 : Int)) = [a, b, c, d].length) := fun h => absurd h.2 (by show ¬ (HT.sIx 4 4 (some (3 : Int)) = 4); decide)
theorem dgetD_S {β : Type} [Py β] {F H : Hp} {a : Addr} {kvs : List (Key × V)} {i : Str} {xs : List (Str × β)} {z : V} {y : β} (e : H a = some (.dK kvs)) (hr : RD F kvs xs) (hz : R F z y) : ∃ o, DGet H a (.str i) o ∧ R F (o.getD z) ((dGet xs i).getD y) := by
  refine ⟨valV kvs (.inr i), DGet.k (k := .inr i) e, ?_⟩
  rcases hr.get i with ⟨h1, h2⟩ | ⟨u, v, h1, h2, h3⟩
  · rw [h1, show valV kvs (.inr i) = none from h2]; exact hz
  · rw [h1, show valV kvs (.inr i) = some v from h2]; exact h3
end PG

set_option Elab.async false
set_option linter.all false
set_option maxRecDepth 100000
set_option maxHeartbeats 4000000
namespace PG
open PySem PySem.Spec PyProof.Rows L2
open PySem.W (T3 T4 Datum DatumOrd Holds HoldAll EachIs)
/-! ### a list of lists that are all ours: the outer cell and the inner ones, any number of them, behind the other cells -/
abbrev LCV := Addr × List V
def lcV (c : LCV) : Addr × HO := (c.1, .lst c.2)
def llC (p : Addr) (ps : List LCV) : List (Addr × HO) := (p, .lst (ps.map fun c => V.ref c.1)) :: ps.map lcV
/-- the inner lists stand for these -/
inductive LLR {a : Type} [Py a] (F : Hp) : List LCV → List (List a) → Prop
  | nil : LLR F [] []
  | cons {c : LCV} {xs : List a} {ps : List LCV} {p : List (List a)} : RL F c.2 xs → LLR F ps p → LLR F (c :: ps) (xs :: p)
section
variable {a : Type} [Py a] {F F' : Hp}
theorem LLR.mono {ps : List LCV} {p : List (List a)} (h : LLR F ps p) (s : Same F F') : LLR F' ps p := by
  induction h with
  | nil => exact .nil
  | cons h _ ih => exact .cons (h.mono s) ih
theorem LLR.len {ps : List LCV} {p : List (List a)} (h : LLR F ps p) : ps.length = p.length := by
  induction h with
  | nil => rfl
  | cons _ _ ih => rw [List.length_cons, List.length_cons, ih]
theorem LLR.got {ps : List LCV} {p : List (List a)} (h : LLR F ps p) : ∀ {j : Nat} {xs : List a}, p[j]? = some xs → ∃ c, ps[j]? = some c ∧ RL F c.2 xs := by
  induction h with
  | nil => intro j xs e; simp at e
  | @cons c ys ps p h _ ih =>
    intro j xs e
    cases j with
    | zero =>
      have e : ys = xs := Option.some.inj e
      subst e
      exact ⟨c, rfl, h⟩
    | succ j => exact ih e
theorem LLR.set {ps : List LCV} {p : List (List a)} (h : LLR F ps p) {w : List V} {xs : List a} (hw : RL F w xs) (q : Addr) : ∀ j : Nat, LLR F (ps.set j (q, w)) (p.set j xs) := by
  induction h with
  | nil => intro j; exact .nil
  | cons h hs ih =>
    intro j
    cases j with
    | zero => exact .cons hw hs
    | succ j => exact .cons h (ih j)
theorem LLR.snoc {ps : List LCV} {p : List (List a)} (h : LLR F ps p) {w : List V} {xs : List a} (hw : RL F w xs) (q : Addr) : LLR F (ps ++ [(q, w)]) (p ++ [xs]) := by
  induction h with
  | nil => exact .cons hw .nil
  | cons h _ ih => exact .cons h ih
end
section
variable {Z : Ent} {F H : Hp} {S : List (Addr × HO)} {p : Addr} {ps : List LCV} {c : LCV} {j : Nat}
theorem ref_set (hj : ps[j]? = some c) (w : List V) : ((ps.set j (c.1, w)).map fun c => V.ref c.1) = ps.map fun c => V.ref c.1 := by
  refine List.ext_getElem? fun i => ?_
  rw [List.getElem?_map, List.getElem?_map, List.getElem?_set]
  by_cases h : j = i
  · subst h
    rw [if_pos rfl, hj]
    rw [if_pos (List.getElem?_eq_some_iff.mp hj).1]
    rfl
  · rw [if_neg h]
theorem llC_at (hj : ps[j]? = some c) : (S ++ llC p ps)[S.length + 1 + j]? = some (c.1, .lst c.2) := by
  rw [List.getElem?_append_right (by omega)]
  show (llC p ps)[S.length + 1 + j - S.length]? = _
  rw [show S.length + 1 + j - S.length = j + 1 by omega]
  show (ps.map lcV)[j]? = _
  rw [List.getElem?_map, hj]
  rfl
theorem llC_top : (S ++ llC p ps)[S.length]? = some (p, .lst (ps.map fun c => V.ref c.1)) := by
  rw [List.getElem?_append_right (Nat.le_refl _), Nat.sub_self]
  rfl
theorem Ow.llAt (O : Ow Z F (S ++ llC p ps) H) (hj : ps[j]? = some c) : H c.1 = some (.lst c.2) := O.at _ (llC_at hj)
theorem Ow.llTop (O : Ow Z F (S ++ llC p ps) H) : H p = some (.lst (ps.map fun c => V.ref c.1)) := O.at _ llC_top
/-- one of the inner lists becomes w -/
theorem Ow.llSet (O : Ow Z F (S ++ llC p ps) H) (hj : ps[j]? = some c) (w : List V) : Ow Z F (S ++ llC p (ps.set j (c.1, w))) (upd H c.1 (.lst w)) := by
  have z := O.set (S.length + 1 + j) (.lst w) (llC_at hj)
  have e : (S ++ llC p ps).set (S.length + 1 + j) (c.1, .lst w) = S ++ llC p (ps.set j (c.1, w)) := by
    rw [List.set_append_right _ _ (by omega), show S.length + 1 + j - S.length = j + 1 by omega]
    unfold llC
    rw [ref_set hj w, List.set_cons_succ, List.map_set]
    rfl
  rw [e] at z
  exact z
/-- a new inner list goes behind -/
theorem Ow.llPush {q : Addr} {w : List V} (O : Ow Z F ((q, .lst w) :: (S ++ llC p ps)) H) : Ow Z F (S ++ llC p (ps ++ [(q, w)])) (upd H p (.lst ((ps.map fun c => V.ref c.1) ++ [V.ref q]))) := by
  have z := O.set (S.length + 1) (.lst ((ps.map fun c => V.ref c.1) ++ [V.ref q])) (show ((q, HO.lst w) :: (S ++ llC p ps))[S.length + 1]? = some (p, _) from llC_top)
  refine z.perm ?_
  have e : ((q, HO.lst w) :: (S ++ llC p ps)).set (S.length + 1) (p, .lst ((ps.map fun c => V.ref c.1) ++ [V.ref q])) = (q, HO.lst w) :: (S ++ ((p, .lst ((ps.map fun c => V.ref c.1) ++ [V.ref q])) :: ps.map lcV)) := by
    rw [List.set_cons_succ, List.set_append_right _ _ (Nat.le_refl _), Nat.sub_self]
    rfl
  rw [e]
  unfold llC
  rw [List.map_append, List.map_append]
  show ((q, HO.lst w) :: (S ++ ((p, HO.lst ((ps.map fun c => V.ref c.1) ++ [V.ref q])) :: ps.map lcV))).Perm (S ++ ((p, HO.lst ((ps.map fun c => V.ref c.1) ++ [V.ref q])) :: (ps.map lcV ++ [(q, HO.lst w)])))
  have e2 : S ++ ((p, HO.lst ((ps.map fun c => V.ref c.1) ++ [V.ref q])) :: (ps.map lcV ++ [(q, HO.lst w)])) = (S ++ ((p, HO.lst ((ps.map fun c => V.ref c.1) ++ [V.ref q])) :: ps.map lcV)) ++ [(q, HO.lst w)] := by
    rw [List.append_assoc, List.cons_append]
  rw [e2]
  exact (List.perm_append_singleton _ _).symm
/-- an empty one: a new outer list -/
theorem Ow.llNew (O : Ow Z F ((p, .lst []) :: S) H) : Ow Z F (S ++ llC p []) H := O.perm (List.perm_append_singleton _ _).symm
theorem Ow.frzM {A B : List (Addr × HO)} {b : Addr} {o : HO} (O : Ow Z F (A ++ (b, o) :: B) H) (hz : Z.H b = none) : ∃ F', Ow Z F' (A ++ B) H ∧ Same F F' ∧ F' b = some o := by
  have e : (A ++ (b, o) :: B)[A.length]? = some (b, o) := by rw [List.getElem?_append_right (Nat.le_refl _), Nat.sub_self]; rfl
  obtain ⟨F', O', s, h⟩ := O.frzE A.length e hz
  rw [List.eraseIdx_append_of_length_le (Nat.le_refl _), Nat.sub_self] at O'
  exact ⟨F', O', s, h⟩
theorem Ow.frzAll {a : Type} [Py a] : ∀ {ps : List LCV} {F : Hp} {A : List (Addr × HO)} {xs : List (List a)}, Ow Z F (A ++ ps.map lcV) H → (∀ c ∈ ps, Z.H c.1 = none) → LLR F ps xs →
    ∃ F', Ow Z F' A H ∧ Same F F' ∧ RL F' (ps.map fun c => V.ref c.1) xs
  | [], F, A, xs, O, _, r => by
    cases r
    rw [List.map_nil, List.append_nil] at O
    exact ⟨F, O, Same.refl _, RL.nil⟩
  | c :: ps, F, A, xs, O, hz, r => by
    cases r with
    | @cons _ x _ q h1 h2 =>
      obtain ⟨F1, O1, s1, g1⟩ := Ow.frzM (A := A) (B := ps.map lcV) (b := c.1) (o := .lst c.2) O (hz c List.mem_cons_self)
      obtain ⟨F2, O2, s2, r2⟩ := Ow.frzAll O1 (fun d hd => hz d (List.mem_cons_of_mem _ hd)) (h2.mono s1)
      exact ⟨F2, O2, s1.trans s2, RL.cons (R.lst (s2 _ _ g1) ((h1.mono s1).mono s2)) r2⟩
/-- all of it is read alone from now on -/
theorem Ow.llFrz {a : Type} [Py a] {xs : List (List a)} (O : Ow Z F (S ++ llC p ps) H) (hp : Z.H p = none) (hz : ∀ c ∈ ps, Z.H c.1 = none) (r : LLR F ps xs) : ∃ F', Ow Z F' S H ∧ Same F F' ∧ R F' (.ref p) xs := by
  obtain ⟨F1, O1, s1, g1⟩ := Ow.frzM (A := S) (B := ps.map lcV) (b := p) (o := .lst (ps.map fun c => V.ref c.1)) O hp
  obtain ⟨F2, O2, s2, r2⟩ := Ow.frzAll O1 hz (r.mono s1)
  exact ⟨F2, O2, s1.trans s2, R.lst (s2 _ _ g1) r2⟩
end
section
variable {a : Type} [Py a] {F : Hp}
theorem LLR.atI {ps : List LCV} {p : List (List a)} (h : LLR F ps p) {i : Int} {y : List a} (e : L2.atI p i = some y) :
    ∃ j c, L2.atI (ps.map fun c => V.ref c.1) i = some (V.ref c.1) ∧ ps[j]? = some c ∧ RL F c.2 y ∧ ixN p.length i = some j := by
  unfold L2.atI at e
  cases hx : ixN p.length i with
  | none => rw [hx] at e; exact nomatch e
  | some j =>
    rw [hx] at e
    have e : p[j]? = some y := e
    obtain ⟨c, hc, hr⟩ := h.got e
    refine ⟨j, c, ?_, hc, hr, rfl⟩
    unfold L2.atI
    rw [List.length_map, h.len, hx]
    show (ps.map fun c => V.ref c.1)[j]? = _
    rw [List.getElem?_map, hc]
    rfl
theorem zs_set {H : Hp} {ps : List LCV} {c : LCV} {j : Nat} (h : ∀ d ∈ ps, H d.1 = none) (hj : ps[j]? = some c) (w : List V) : ∀ d ∈ ps.set j (c.1, w), H d.1 = none := fun d hd => by
  rcases List.mem_or_eq_of_mem_set hd with hd | hd
  · exact h d hd
  · rw [hd]; exact h c (List.mem_of_getElem? hj)
theorem zs_snoc {H : Hp} {ps : List LCV} {q : Addr} {w : List V} (h : ∀ d ∈ ps, H d.1 = none) (hq : H q = none) : ∀ d ∈ ps ++ [(q, w)], H d.1 = none := fun d hd => by
  rcases List.mem_append.mp hd with hd | hd
  · exact h d hd
  · rw [List.mem_singleton.mp hd]; exact hq
end
/-! ### a list so many times -/
def repL {a : Type} (k : Int) (xs : List a) : List a := (List.replicate k.toNat xs).flatten
theorem RL.rep {a : Type} [Py a] {H : Hp} {vs : List V} {xs : List a} (h : RL H vs xs) (k : Int) : RL H (repL k vs) (repL k xs) := by
  unfold repL
  induction k.toNat with
  | zero => exact RL.nil
  | succ n ih =>
    rw [List.replicate_succ, List.replicate_succ, List.flatten_cons, List.flatten_cons]
    exact RL.app h ih
def CRep (n : Nat) (k : Int) : Prop := -(2 ^ 63) ≤ k ∧ k < 2 ^ 63 ∧ n * k.toNat < 16777216
instance (n : Nat) (k : Int) : Decidable (CRep n k) := by unfold CRep; infer_instance
theorem R.tpN {a : Type} [Py a] {F : Hp} {p : Addr} {vs : List V} {xs : List a} (h : F p = some (.tup vs)) (r : RL F vs xs) : R F (.ref p) (Tp.mk xs) := by
  show Rep F (.ref p) (.tuple (xs.map Py.toD))
  exact .tup h r
/-! ### what is walked, K told outright (for comprehensions within one another) -/
section
variable {X : Cx} {K : PySem.W.Frag} {tg : Expr}
theorem piListK (h : X.K = K) {l : Expr} {tl : TE} (hl : PE X l tl) : PI X tg l (iList K tl) := by rw [← h]; exact pi_list hl
theorem piTupK (h : X.K = K) {l : Expr} {tl : TE} (hl : PE X l tl) : PI X tg l (iTup K tl) := by rw [← h]; exact pi_tup hl
theorem piEnumK (h : X.K = K) {e : Expr} {ta : TA} {p pos tpos : Pos} {elts : List Expr} {kk : Nat} (hg : Gl X "enumerate") (hm : X.mg "enumerate" = none) (ha : PA X [e] ta) (hs : starEach [e] X.env = [(false, eval e X.env)] := by rfl) :
    PI X (.Tuple elts kk tpos) (.Call (.Name "enumerate" p) [e] [] pos) (iEnum K ta) := by rw [← h]; exact pi_enum hg hm ha hs
theorem piZipK (h : X.K = K) {e e2 : Expr} {ta : TA} {p pos tpos : Pos} {elts : List Expr} {kk : Nat} (hg : Gl X "zip") (hm : X.mg "zip" = none) (ha : PA X [e, e2] ta)
    (hs : starEach [e, e2] X.env = (false, eval e X.env) :: starEach [e2] X.env := by rfl) (hpl : (backTo pos (starEach [e2] X.env)).any (·.1) = false := by rfl) :
    PI X (.Tuple elts kk tpos) (.Call (.Name "zip" p) [e, e2] [] pos) (iZip K ta) := by rw [← h]; exact pi_zip hg hm ha hs hpl
end
end PG

set_option Elab.async false
set_option linter.all false
set_option maxRecDepth 100000
set_option maxHeartbeats 4000000
/-! Plain mathematics over the monad M: no program in sight. -/
namespace PG
open PySem L2
open PySem.W (T3 T4 Datum DatumOrd)
section
variable {a b s i : Type}
theorem ok_b (x : a) (k : a → M b) : (Except.ok x >>= k) = k x := rfl
theorem okP_b (x : a) (k : a → M b) : ((Except.ok x : M a) >>= k) = k x := rfl
theorem ret_b (x : a) (k : a → M b) : (ret x >>= k) = k x := rfl
theorem chk_ok {c : Prop} [Decidable c] (h : c) : chk c = .ok () := by unfold chk; rw [if_pos h]
theorem chk_b {c : Prop} [Decidable c] (h : c) (k : Unit → M b) : (chk c >>= k) = k () := by rw [chk_ok h]; rfl
theorem opt_b {o : Option a} {x : a} (h : o = some x) (k : a → M b) : (opt o >>= k) = k x := by rw [h]; rfl
theorem bind_ok {m : M a} {x : a} (h : m = .ok x) (k : a → M b) : (m >>= k) = k x := by rw [h]; rfl
theorem appL_ok {xs : List a} {y : a} (h : xs.length < 16777216) : appL xs y = .ok (xs ++ [y]) := by unfold appL; rw [if_pos h]
theorem ixN_nat {n : Nat} {j : Int} (h0 : 0 ≤ j) (h : j < n) : ixN n j = some j.toNat := by unfold ixN; rw [if_pos h0, if_pos h]
theorem atI_of {xs : List a} {j : Int} {x : a} (h0 : 0 ≤ j) (h : xs[j.toNat]? = some x) : L2.atI xs j = some x := by
  have hl := (List.getElem?_eq_some_iff.mp h).1
  unfold L2.atI
  rw [ixN_nat h0 (by omega)]
  exact h
theorem atI_some {xs : List a} {j : Int} (h0 : 0 ≤ j) (h : j < xs.length) : ∃ x, L2.atI xs j = some x ∧ xs[j.toNat]? = some x := by
  have hl : j.toNat < xs.length := by omega
  exact ⟨xs[j.toNat], atI_of h0 (List.getElem?_eq_getElem hl), List.getElem?_eq_getElem hl⟩
theorem setI_ok {xs : List a} {j : Int} {y : a} (h0 : 0 ≤ j) (h : j < xs.length) : setI xs j y = .ok (xs.set j.toNat y) := by unfold setI; rw [ixN_nat h0 h]
theorem popI_ok {xs : List a} {j : Int} {y : a} (h0 : 0 ≤ j) (h : xs[j.toNat]? = some y) (hl : xs.length < 16777216) : popI xs j = .ok (y, xs.eraseIdx j.toNat) := by
  have h1 := (List.getElem?_eq_some_iff.mp h).1
  unfold popI
  rw [if_pos hl, ixN_nat h0 (by omega)]
  show (match xs[j.toNat]? with
    | some y => (Except.ok (y, xs.eraseIdx j.toNat) : M _)
    | none => bad) = _
  rw [h]
/-- loops by an invariant over the items gone through -/
theorem loopN_inv {f : i → s → M s} (P : List i → s → Prop) : ∀ {xs pre : List i} {x : s}, P pre x → (∀ pre y ys x, xs ++ [] = xs → P pre x → (∃ q, q ++ y :: ys = pre ++ y :: ys) → ∃ x', f y x = .ok x' ∧ P (pre ++ [y]) x') → ∃ x', loopN f xs x = .ok x' ∧ P (pre ++ xs) x' := by
  intro xs
  induction xs with
  | nil => intro pre x h _; exact ⟨x, rfl, by rw [List.append_nil]; exact h⟩
  | cons y ys ih =>
    intro pre x h hs
    obtain ⟨x1, e1, h1⟩ := hs pre y ys x (List.append_nil _) h ⟨pre, rfl⟩
    obtain ⟨x2, e2, h2⟩ := ih (pre := pre ++ [y]) h1 fun pre y ys x _ hp hq => hs pre y ys x (List.append_nil _) hp hq
    refine ⟨x2, ?_, by rw [List.append_assoc] at h2; exact h2⟩
    show (f y x >>= fun x' => loopN f ys x') = _
    rw [e1]
    exact e2
/-- .. with what is known of the items -/
theorem loopN_run {f : i → s → M s} {all : List i} (P : List i → s → Prop) {x : s} (h : P [] x) (hs : ∀ pre y post x, all = pre ++ y :: post → P pre x → ∃ x', f y x = .ok x' ∧ P (pre ++ [y]) x') : ∃ x', loopN f all x = .ok x' ∧ P all x' := by
  have go : ∀ (xs pre : List i) (x : s), all = pre ++ xs → P pre x → ∃ x', loopN f xs x = .ok x' ∧ P (pre ++ xs) x' := by
    intro xs
    induction xs with
    | nil => intro pre x _ h; exact ⟨x, rfl, by rw [List.append_nil]; exact h⟩
    | cons y ys ih =>
      intro pre x e h
      obtain ⟨x1, e1, h1⟩ := hs pre y ys x e h
      obtain ⟨x2, e2, h2⟩ := ih (pre ++ [y]) x1 (by rw [List.append_assoc]; exact e) h1
      refine ⟨x2, ?_, by rw [List.append_assoc] at h2; exact h2⟩
      show (f y x >>= fun x' => loopN f ys x') = _
      rw [e1]
      exact e2
  exact go all [] x rfl h
/-- a loop that goes on at each item -/
theorem loopM_run {r : Type} {f : i → s → M (Fl s r)} {all : List i} (P : List i → s → Prop) {x : s} (h : P [] x) (hs : ∀ pre y post x, all = pre ++ y :: post → P pre x → ∃ x', f y x = .ok (.nx x') ∧ P (pre ++ [y]) x') : ∃ x', loopM f all x = .ok (.nx x') ∧ P all x' := by
  have go : ∀ (xs pre : List i) (x : s), all = pre ++ xs → P pre x → ∃ x', loopM f xs x = .ok (.nx x') ∧ P (pre ++ xs) x' := by
    intro xs
    induction xs with
    | nil => intro pre x _ h; exact ⟨x, rfl, by rw [List.append_nil]; exact h⟩
    | cons y ys ih =>
      intro pre x e h
      obtain ⟨x1, e1, h1⟩ := hs pre y ys x e h
      obtain ⟨x2, e2, h2⟩ := ih (pre ++ [y]) x1 (by rw [List.append_assoc]; exact e) h1
      refine ⟨x2, ?_, by rw [List.append_assoc] at h2; exact h2⟩
      show (f y x >>= fun q => match q with
        | .nx x' => loopM f ys x'
        | .rt z => .ok (.rt z)) = _
      rw [e1]
      exact e2
  exact go all [] x rfl h
/-- .. that has no state -/
theorem loopM_all {r : Type} {f : i → Unit → M (Fl Unit r)} {all : List i} (hs : ∀ y ∈ all, f y () = .ok (.nx ())) : loopM f all () = .ok (.nx ()) := by
  obtain ⟨x, e, _⟩ := loopM_run (f := f) (all := all) (fun _ _ => True) (x := ()) trivial fun pre y post x e _ => ⟨(), by cases x; exact hs y (by rw [e]; simp), trivial⟩
  exact e
theorem compX_run {c : Type} {f : i → s → M (Option c × s)} {all : List i} (P : List i → List c → s → Prop) {x : s} (h : P [] [] x)
    (hs : ∀ pre y post acc x, all = pre ++ y :: post → P pre acc x → ∃ o x', f y x = .ok (o, x') ∧ P (pre ++ [y]) (match o with
      | some z => acc ++ [z]
      | none => acc) x') : ∃ acc x', compX f all [] x = .ok (acc, x') ∧ P all acc x' := by
  have go : ∀ (xs pre : List i) (acc : List c) (x : s), all = pre ++ xs → P pre acc x → ∃ acc' x', compX f xs acc x = .ok (acc', x') ∧ P (pre ++ xs) acc' x' := by
    intro xs
    induction xs with
    | nil => intro pre acc x _ h; exact ⟨acc, x, rfl, by rw [List.append_nil]; exact h⟩
    | cons y ys ih =>
      intro pre acc x e h
      obtain ⟨o, x1, e1, h1⟩ := hs pre y ys acc x e h
      obtain ⟨acc2, x2, e2, h2⟩ := ih (pre ++ [y]) _ x1 (by rw [List.append_assoc]; exact e) h1
      refine ⟨acc2, x2, ?_, by rw [List.append_assoc] at h2; exact h2⟩
      show (nox (f y x) >>= fun p => compX f ys (match p.1 with
        | some z => acc ++ [z]
        | none => acc) p.2) = _
      rw [e1]
      exact e2
  exact go all [] [] x rfl h
theorem compS_run {c : Type} {f : i → s → M (Option c × s)} {all : List i} (hl : all.length < 16777216) (P : List i → List c → s → Prop) {x : s} (h : P [] [] x)
    (hs : ∀ pre y post acc x, all = pre ++ y :: post → P pre acc x → ∃ o x', f y x = .ok (o, x') ∧ P (pre ++ [y]) (match o with
      | some z => acc ++ [z]
      | none => acc) x') : ∃ acc x', compS f all x = .ok (acc, x') ∧ P all acc x' := by
  unfold compS
  rw [chk_b hl]
  exact compX_run P h hs
/-- a plain map with a test -/
theorem compS_pure {c : Type} {f : i → Unit → M (Option c × Unit)} {all : List i} (g : i → Option c) (hl : all.length < 16777216) (hs : ∀ y ∈ all, f y () = .ok (g y, ())) : compS f all () = .ok (all.filterMap g, ()) := by
  obtain ⟨acc, x, e, h⟩ := compS_run (f := f) (all := all) hl (fun pre acc _ => acc = pre.filterMap g) (x := ()) rfl fun pre y post acc x e h => by
    refine ⟨g y, (), by cases x; exact hs y (by rw [e]; simp), ?_⟩
    rw [h, List.filterMap_append]
    cases e2 : g y with
    | none => simp [e2]
    | some z => simp [e2]
  rw [e, h]
end

/-! ### sorted lists -/
section
variable {a : Type}
/-- two sorted lists of the same things are one -/
theorem perm_sorted_eq {le : a → a → Bool} (anti : ∀ x y, le x y = true → le y x = true → x = y) : ∀ {xs ys : List a}, xs.Perm ys → xs.Pairwise (fun x y => le x y = true) → ys.Pairwise (fun x y => le x y = true) → xs = ys := by
  intro xs
  induction xs with
  | nil => intro ys h _ _; exact (List.nil_perm.mp h).symm
  | cons x xs ih =>
    intro ys h hx hy
    cases ys with
    | nil => exact absurd h.length_eq (by simp)
    | cons y ys =>
      rw [List.pairwise_cons] at hx hy
      have e : x = y := by
        have m1 : x ∈ y :: ys := h.mem_iff.mp List.mem_cons_self
        have m2 : y ∈ x :: xs := h.mem_iff.mpr List.mem_cons_self
        rcases List.mem_cons.mp m1 with r | r
        · exact r
        · rcases List.mem_cons.mp m2 with q | q
          · exact q.symm
          · exact anti x y (hx.1 y q) (hy.1 x r)
      subst e
      rw [ih (List.Perm.cons_inv h) hx.2 hy.2]
class LeOk (a : Type) [DecidableEq a] [DatumOrd a] : Prop where
  tr : ∀ x y z : a, leT x y = true → leT y z = true → leT x z = true
  tot : ∀ x y : a, (leT x y || leT y x) = true
  anti : ∀ x y : a, leT x y = true → leT y x = true → x = y
theorem leT_int (x y : Int) : leT x y = decide (x ≤ y) := by
  show (!decide (y < x)) = decide (x ≤ y)
  by_cases h : y < x
  · have : ¬ x ≤ y := by omega
    simp [h, this]
  · have : x ≤ y := by omega
    simp [h, this]
instance : LeOk Int where
  tr x y z h1 h2 := by
    rw [leT_int, decide_eq_true_eq] at h1 h2 ⊢
    omega
  tot x y := by
    rw [leT_int, leT_int, Bool.or_eq_true, decide_eq_true_eq, decide_eq_true_eq]
    omega
  anti x y h1 h2 := by
    rw [leT_int, decide_eq_true_eq] at h1 h2
    omega
theorem leT_p (x y : Int × Int) : leT x y = decide (x.1 < y.1 ∨ (x.1 = y.1 ∧ x.2 ≤ y.2)) := by
  show (!(if y.1 = x.1 then decide (y.2 < x.2) else decide (y.1 < x.1))) = _
  by_cases h : y.1 = x.1
  · rw [if_pos h]
    by_cases h2 : y.2 < x.2
    · have : ¬ (x.1 < y.1 ∨ (x.1 = y.1 ∧ x.2 ≤ y.2)) := by omega
      simp [h2, this]
    · have : (x.1 < y.1 ∨ (x.1 = y.1 ∧ x.2 ≤ y.2)) := by omega
      simp [h2, this]
  · rw [if_neg h]
    by_cases h2 : y.1 < x.1
    · have : ¬ (x.1 < y.1 ∨ (x.1 = y.1 ∧ x.2 ≤ y.2)) := by omega
      simp [h2, this]
    · have : (x.1 < y.1 ∨ (x.1 = y.1 ∧ x.2 ≤ y.2)) := by omega
      simp [h2, this]
instance : LeOk (Int × Int) where
  tr x y z h1 h2 := by
    rw [leT_p, decide_eq_true_eq] at h1 h2 ⊢
    omega
  tot x y := by
    rw [leT_p, leT_p, Bool.or_eq_true, decide_eq_true_eq, decide_eq_true_eq]
    omega
  anti x y h1 h2 := by
    rw [leT_p, decide_eq_true_eq] at h1 h2
    exact Prod.ext (by omega) (by omega)
theorem leT_3 (x y : T3 Int Int Int) : leT x y = decide (x.a < y.a ∨ (x.a = y.a ∧ (x.b < y.b ∨ (x.b = y.b ∧ x.c ≤ y.c)))) := by
  show (!DatumOrd.lt y x) = _
  have e : DatumOrd.lt y x = decide (y.a < x.a ∨ (y.a = x.a ∧ (y.b < x.b ∨ (y.b = x.b ∧ y.c < x.c)))) := by
    rw [Bool.eq_iff_iff, decide_eq_true_eq]
    show (if y.a = x.a then (if y.b = x.b then decide (y.c < x.c) else decide (y.b < x.b)) else decide (y.a < x.a)) = true ↔ _
    by_cases h : y.a = x.a
    · rw [if_pos h]
      by_cases h2 : y.b = x.b
      · rw [if_pos h2, decide_eq_true_eq]; omega
      · rw [if_neg h2, decide_eq_true_eq]; omega
    · rw [if_neg h, decide_eq_true_eq]; omega
  rw [e, Bool.eq_iff_iff, Bool.not_eq_true', decide_eq_false_iff_not, decide_eq_true_eq]
  omega
instance : LeOk (T3 Int Int Int) where
  tr x y z h1 h2 := by
    rw [leT_3, decide_eq_true_eq] at h1 h2 ⊢
    omega
  tot x y := by
    rw [leT_3, leT_3, Bool.or_eq_true, decide_eq_true_eq, decide_eq_true_eq]
    omega
  anti x y h1 h2 := by
    rw [leT_3, decide_eq_true_eq] at h1 h2
    exact PySem.W.T3.same (by omega) (by omega) (by omega)
variable [DecidableEq a] [DatumOrd a] [LeOk a]
theorem sortT_perm (xs : List a) : (sortT xs).Perm xs := List.mergeSort_perm xs _
theorem sortT_sorted (xs : List a) : (sortT xs).Pairwise (fun x y => leT x y = true) := List.pairwise_mergeSort (fun x y z => LeOk.tr x y z) (fun x y => LeOk.tot x y) xs
theorem sortT_eq {xs ys : List a} (h : xs.Perm ys) : sortT xs = sortT ys :=
  perm_sorted_eq LeOk.anti ((sortT_perm xs).trans (h.trans (sortT_perm ys).symm)) (sortT_sorted xs) (sortT_sorted ys)
theorem sortT_id {xs : List a} (h : xs.Pairwise (fun x y => leT x y = true)) : sortT xs = xs := perm_sorted_eq LeOk.anti (sortT_perm xs) (sortT_sorted xs) h
theorem sortT_idem (xs : List a) : sortT (sortT xs) = sortT xs := sortT_id (sortT_sorted xs)
theorem sortT_len (xs : List a) : (sortT xs).length = xs.length := (sortT_perm xs).length_eq
theorem sortT_mem {xs : List a} {x : a} : x ∈ sortT xs ↔ x ∈ xs := (sortT_perm xs).mem_iff
end
/-! ### numbers -/
theorem cdivW {i j : Int} (h : 0 < j) (h2 : j ≤ 10 ^ 40) : CDivW i j := by
  have h3 : j.natAbs ≤ 10 ^ 40 := by omega
  exact wide_div (b := 200) h (Nat.lt_of_le_of_lt h3 (by decide)) (by decide) (by decide)
theorem cmulW {i j : Int} (h1 : i.natAbs < 2 ^ 100000) (h2 : j.natAbs < 2 ^ 100000) : CMulW i j := wide_mul h1 h2 (by decide) (by decide) (by decide)

theorem erase_perm {a : Type} : ∀ {l : List a} {j : Nat} (h : j < l.length), (l[j] :: l.eraseIdx j).Perm l
  | x :: l, 0, _ => List.Perm.refl _
  | x :: l, j + 1, h => by
    have h' : j < l.length := by simpa using h
    show (l[j] :: x :: l.eraseIdx j).Perm (x :: l)
    exact (List.Perm.swap _ _ _).trans (List.Perm.cons _ (erase_perm h'))

/-! ### trees -/
abbrev Tie := T3 Int Int Int
abbrev Tr := List Int × List Tie
def tieOf (p q c : Int) : Tie := if p ≤ q then ⟨p, q, c⟩ else ⟨q, p, c⟩
/-- place by place, each new one tied to one that is there -/
inductive Grown : List Int → List Tie → Prop
  | one (p : Int) : Grown [p] []
  | more {ps : List Int} {ts : List Tie} (q p c : Int) : Grown ps ts → q ∈ ps → p ∉ ps → Grown (ps ++ [p]) (ts ++ [tieOf p q c])
theorem tieOf_lt {p q c : Int} (h : p ≠ q) : (tieOf p q c).a < (tieOf p q c).b ∧ ((tieOf p q c).a = p ∧ (tieOf p q c).b = q ∨ (tieOf p q c).a = q ∧ (tieOf p q c).b = p) ∧ (tieOf p q c).c = c := by
  unfold tieOf
  by_cases h1 : p ≤ q
  · rw [if_pos h1]; exact ⟨by show p < q; omega, .inl ⟨rfl, rfl⟩, rfl⟩
  · rw [if_neg h1]; exact ⟨by show q < p; omega, .inr ⟨rfl, rfl⟩, rfl⟩
theorem Grown.in {ps : List Int} {ts : List Tie} (g : Grown ps ts) : ∀ t ∈ ts, t.a ∈ ps ∧ t.b ∈ ps ∧ t.a < t.b := by
  induction g with
  | one p => intro t h; cases h
  | @more ps ts q p c g hq hp ih =>
    intro t h
    rcases List.mem_append.mp h with h | h
    · obtain ⟨h1, h2, h3⟩ := ih t h
      exact ⟨List.mem_append_left _ h1, List.mem_append_left _ h2, h3⟩
    · have e := List.mem_singleton.mp h
      subst e
      have hpq : p ≠ q := fun e => hp (e ▸ hq)
      obtain ⟨l, hab, _⟩ := tieOf_lt (c := c) hpq
      have mp : p ∈ ps ++ [p] := by simp
      have mq : q ∈ ps ++ [p] := List.mem_append_left _ hq
      rcases hab with ⟨h1, h2⟩ | ⟨h1, h2⟩
      · exact ⟨by rw [h1]; exact mp, by rw [h2]; exact mq, l⟩
      · exact ⟨by rw [h1]; exact mq, by rw [h2]; exact mp, l⟩
theorem Grown.len {ps : List Int} {ts : List Tie} (g : Grown ps ts) : ps.length = ts.length + 1 := by
  induction g with
  | one p => rfl
  | more q p c g hq hp ih => rw [List.length_append, List.length_append, ih]; rfl
theorem Grown.nd {ps : List Int} {ts : List Tie} (g : Grown ps ts) : ps.Nodup := by
  induction g with
  | one p => simp
  | more q p c g hq hp ih => exact List.nodup_append.mpr ⟨ih, by simp, fun x hx y hy e => by rw [List.mem_singleton.mp hy] at e; exact hp (e ▸ hx)⟩
/-- a tree: its worths, its ties sorted -/
structure TreeOk (t : Tr) : Prop where
  ex : ∃ ps ts, Grown ps ts ∧ ps.Perm (rangeL 0 (t.1.length : Int)) ∧ t.2 = sortT ts
theorem TreeOk.pos {t : Tr} (h : TreeOk t) : 1 ≤ t.1.length := by
  obtain ⟨ps, ts, g, p, e⟩ := h.ex
  have h1 := p.length_eq
  rw [rangeL_length] at h1
  have := g.len
  omega
theorem TreeOk.len {t : Tr} (h : TreeOk t) : t.1.length = t.2.length + 1 := by
  obtain ⟨ps, ts, g, p, e⟩ := h.ex
  have h1 := p.length_eq
  rw [rangeL_length] at h1
  have := g.len
  rw [e, sortT_len]
  omega
theorem rangeL_mem' {lo hi x : Int} : x ∈ rangeL lo hi ↔ lo ≤ x ∧ x < hi := by
  unfold rangeL
  rw [List.mem_map]
  constructor
  · rintro ⟨j, hj, rfl⟩
    have := List.mem_range.mp hj
    omega
  · rintro ⟨h1, h2⟩
    exact ⟨(x - lo).toNat, List.mem_range.mpr (by omega), by omega⟩
theorem TreeOk.tie {t : Tr} (h : TreeOk t) : ∀ x ∈ t.2, 0 ≤ x.a ∧ x.a < x.b ∧ x.b < (t.1.length : Int) := by
  obtain ⟨ps, ts, g, p, e⟩ := h.ex
  intro x hx
  rw [e, sortT_mem] at hx
  obtain ⟨h1, h2, h3⟩ := g.in x hx
  have a1 := rangeL_mem'.mp (p.mem_iff.mp h1)
  have a2 := rangeL_mem'.mp (p.mem_iff.mp h2)
  exact ⟨a1.1, h3, a2.2⟩
theorem TreeOk.sorted {t : Tr} (h : TreeOk t) : sortT t.2 = t.2 := by
  obtain ⟨ps, ts, g, p, e⟩ := h.ex
  rw [e, sortT_idem]
theorem sort2 (x y : Int) : sortT [x, y] = if x ≤ y then [x, y] else [y, x] := by
  by_cases h : x ≤ y
  · rw [if_pos h]
    exact sortT_id (by simp [leT_int, h])
  · rw [if_neg h]
    have e : sortT [x, y] = sortT [y, x] := sortT_eq (List.Perm.swap _ _ _)
    rw [e]
    exact sortT_id (by simp [leT_int]; omega)

theorem fm_congr {a b : Type} {f g : a → Option b} : ∀ {l : List a}, (∀ x ∈ l, f x = g x) → l.filterMap f = l.filterMap g
  | [], _ => rfl
  | x :: l, h => by
    have h1 := h x List.mem_cons_self
    have h2 := fm_congr (l := l) fun y hy => h y (List.mem_cons_of_mem _ hy)
    rw [List.filterMap_cons, List.filterMap_cons, h1, h2]
end PG

set_option Elab.async false
set_option linter.all false
set_option maxRecDepth 100000
namespace G
open PySem PySem.Spec PyProof.Rows L2 PG
open PySem.W (T3 T4 Datum DatumOrd)
def top (i : Nat) : Stmt := PySem.Challenge.pw_everyseat_k20_whole_worths_moved.main.body.getD i (.Pass ⟨0, 0, 0, 0⟩)
structure Nb (mg : Str → Option Value) : Prop where
  b_dict : mg "dict" = none
  b_enumerate : mg "enumerate" = none
  b_int : mg "int" = none
  b_len : mg "len" = none
  b_list : mg "list" = none
  b_max : mg "max" = none
  b_min : mg "min" = none
  b_range : mg "range" = none
  b_sorted : mg "sorted" = none
  c_MOST : ∃ u, mg "MOST" = some u ∧ RelV (.int 3) u
section
variable {P : Program} {w : World} {K : PySem.W.Frag} {mg : Str → Option Value} {base : Heap}
abbrev s_may_stand : Stmt := top 5
theorem sc_may_stand : FnScope ["told", "leaves", "many"] ["told", "leaves", "many"] (defScope s_may_stand) := ⟨rfl, rfl, rfl, by decide +kernel, rfl, by decide +kernel, by decide +kernel⟩
def m_may_stand : Nat → Sm → (Tp Str) → Int → M (Bool)
  | 0, _, _, _ => bad
  | k_ + 1, x_told, x_leaves, x_many =>
    if (Sm.word x_told) = ("number" : Str) then (
    .ok true)
    else (
    if (Sm.word x_told) ∈ ([(("own" : Str), ("tie" : Str)).1, (("own" : Str), ("tie" : Str)).2]) then (
    .ok (decide ((Sm.word x_told) ∈ (Tp.l x_leaves))))
    else (
    if (Sm.word x_told) ∈ ([(("so" : Str), ("more" : Str)).1, (("so" : Str), ("more" : Str)).2]) then (
    if (Sm.word x_told) ∈ (Tp.l x_leaves) then (
    opt (Sm.int? x_told) >>= fun y63 =>
    if (0 : Int) ≤ y63 then (
    .ok (decide (y63 < x_many)))
    else (
    .ok false))
    else (
    .ok false))
    else (
    opt (Sm.two? x_told) >>= fun y70 =>
    m_may_stand k_ y70.1 x_leaves x_many >>= fun r80 =>
    if r80 = true then (
    opt (Sm.two? x_told) >>= fun y87 =>
    m_may_stand k_ y87.2 x_leaves x_many >>= fun r97 =>
    .ok r97)
    else (
    .ok false))))
def sp_may_stand (k_ : Nat) (mg : Str → Option Value) : Sp := fun vs H Q E => ∃ (F : Hp) (v_told : V) (x_told : Sm) (v_leaves : V) (x_leaves : (Tp Str)) (x_many : Int), vs = [v_told, v_leaves, V.int x_many] ∧ Pre F [] H ∧ R (a := Sm) F v_told x_told ∧ R (a := (Tp Str)) F v_leaves x_leaves ∧
  wp (m_may_stand k_ x_told x_leaves x_many) (fun r => ∀ (F' H' : Hp), Gr [] F H F' H' → Q (V.bl r) H')
  (fun n => ∀ (C : Addr) (H' : Hp), mg (Str.ofString n) = some (.ref C) → Kp [] H H' → E (.ref C) none H')
set_option maxHeartbeats 2000000 in
theorem ok_may_stand (nb : Nb mg) (D : Df K mg "may_stand" "may_stand" s_may_stand ["told", "leaves", "many"]) : ∀ k_ : Nat, Ca P w K mg base "may_stand" (k_ + 1) ["told", "leaves", "many"] (sp_may_stand k_ mg) := by
  intro k_
  induction k_ with
  | zero =>
    refine Ca.mk' D sc_may_stand (fun vs H Q E h => ?_) (fun q_ f_ cdv A outer s H vs Q E hr h => ?_)
    · obtain ⟨F, _, _, _, _, _, rfl, _⟩ := h
      rfl
    · obtain ⟨F, _, _, _, _, _, rfl, _, _, _, hk⟩ := h
      exact hk.elim
  | succ k_ ih_ =>
    have C_may_stand := ih_
    obtain ⟨fa_may_stand, fd_may_stand, G_may_stand, M_may_stand, K_may_stand, B_may_stand⟩ := C_may_stand.ex
    refine Ca.mk' D sc_may_stand (fun vs H Q E h => ?_) (fun q_ f_ cdv A outer s H vs Q E hr h => ?_)
    · obtain ⟨F, _, _, _, _, _, rfl, _⟩ := h
      rfl
    · obtain ⟨F, v_told, x_told, v_leaves, x_leaves, x_many, rfl, P0, f_told, f_leaves, hk⟩ := h
      have nd := sc_may_stand.nd
      have hu64 := hr.units
      have hu128 := hu128_of hr
      have O := P0.start
      refine ⟨_, (pss_cons (ps_if (pt_cmpR (op_eqT Str hu64) (pe_ix (ixTupK (K := K) rfl) (pv 0) pe_int (fun _ _ => rfl)) pe_str (nomark _)) (pss_one (ps_ret pe_bl)) pss_nil)
  (pss_cons (ps_if (pt_cmpR (op_inT Str hu64) (pe_ix (ixTupK (K := K) rfl) (pv 0) pe_int (fun _ _ => rfl)) (pe_tup (pa_cons pe_str (pa_cons pe_str pa_nil))) rfl) (pss_one (ps_ret (pe_cmpR (op_inT Str hu64) (pe_ix (ixTupK (K := K) rfl) (pv 0) pe_int (fun _ _ => rfl)) (pv 1) rfl))) pss_nil)
  (pss_cons (ps_if (pt_cmpR (op_inT Str hu64) (pe_ix (ixTupK (K := K) rfl) (pv 0) pe_int (fun _ _ => rfl)) (pe_tup (pa_cons pe_str (pa_cons pe_str pa_nil))) rfl) (pss_one (ps_ret (pe_and (pe_cmpR (op_inT Str hu64) (pe_ix (ixTupK (K := K) rfl) (pv 0) pe_int (fun _ _ => rfl)) (pv 1) rfl) (pe_one (pe_chain op_le op_lt pe_int (pe_ix (ixTupK (K := K) rfl) (pv 0) pe_int (fun _ _ => rfl)) (pv 2)))))) pss_nil)
  (pss_one (ps_ret (pe_and (pe_call G_may_stand (hr.mono (by omega)) rfl M_may_stand K_may_stand B_may_stand .nil (passes_call (takes_of rfl rfl rfl rfl) fun _ _ _ _ h => h) (pa_cons (pe_ix (ixTupK (K := K) rfl) (pv 0) pe_int (fun _ _ => rfl)) (pa_cons (pv 1) (pa_cons (pv 2) pa_nil)))) (pe_one (pe_call G_may_stand (hr.mono (by omega)) rfl M_may_stand K_may_stand B_may_stand .nil (passes_call (takes_of rfl rfl rfl rfl) fun _ _ _ _ h => h) (pa_cons (pe_ix (ixTupK (K := K) rfl) (pv 0) pe_int (fun _ _ => rfl)) (pa_cons (pv 1) (pa_cons (pv 2) pa_nil))))))))))), ?_⟩
      obtain ⟨p1, w2, e3, h4⟩ := R.sm_ f_told
      cases e3
      refine ⟨_, rfl, _, _, _, _, rfl, rfl, (SqTF O.s h4), (atI0 _ _), _, _, R.str, R.str, _, rfl, ?_⟩
      refine iteD (fun q5 => ?_) (fun q5 => ?_)
      · have hk := wp_if hk q5
        exact hk _ _  O.g 
      · have hk := wp_el hk q5
        obtain ⟨p6, w7, e8, h9⟩ := R.sm_ f_told
        cases e8
        refine ⟨_, rfl, _, _, _, _, rfl, rfl, (SqTF O.s h9), (atI0 _ _), (by show 2 ≤ sizeLine; decide), fun p10 hp11 => ?_⟩
        obtain ⟨F12, O13, S14, h15⟩ := O.putE hp11 (.tup [V.str ("own" : Str), V.str ("tie" : Str)])
        have f_told := f_told.mono S14
        have f_leaves := f_leaves.mono S14
        have h4 := S14 _ _ h4
        have h9 := S14 _ _ h9
        have h16 : R (a := (Str × Str)) F12 (.ref p10) (("own" : Str), ("tie" : Str)) := R.t2 h15 R.str R.str
        obtain ⟨p17, v20, v21, e18, h19, r22, r23⟩ := R.t2_ h16
        cases e18
        obtain rfl := R.str_ r22
        obtain rfl := R.str_ r23
        refine ⟨_, _, _, _, R.str, rfl, (.inr (O13.s _ _ h19)), (RL.mono (RL.cons R.str (RL.cons R.str RL.nil)) O13.s), _, rfl, ?_⟩
        refine iteD (fun q24 => ?_) (fun q24 => ?_)
        · have hk := wp_if hk q24
          obtain ⟨p25, w26, e27, h28⟩ := R.sm_ f_told
          cases e27
          obtain ⟨p29, w30, e31, h32, hl33⟩ := R.tp_ f_leaves
          cases e31
          refine ⟨_, rfl, _, _, _, _, rfl, rfl, (SqTF O13.s h28), (atI0 _ _), _, rfl, _, _, _, _, R.str, rfl, (.inr (O13.s _ _ h32)), (RL.mono (hl33) O13.s), ?_⟩
          exact hk _ _  O13.g 
        · have hk := wp_el hk q24
          obtain ⟨p34, w35, e36, h37⟩ := R.sm_ f_told
          cases e36
          refine ⟨_, rfl, _, _, _, _, rfl, rfl, (SqTF O13.s h37), (atI0 _ _), (by show 2 ≤ sizeLine; decide), fun p38 hp39 => ?_⟩
          obtain ⟨F40, O41, S42, h43⟩ := O13.putE hp39 (.tup [V.str ("so" : Str), V.str ("more" : Str)])
          have f_told := f_told.mono S42
          have f_leaves := f_leaves.mono S42
          have h4 := S42 _ _ h4
          have h9 := S42 _ _ h9
          have h16 := h16.mono S42
          have h19 := S42 _ _ h19
          have h37 := S42 _ _ h37
          have h44 : R (a := (Str × Str)) F40 (.ref p38) (("so" : Str), ("more" : Str)) := R.t2 h43 R.str R.str
          obtain ⟨p45, v48, v49, e46, h47, r50, r51⟩ := R.t2_ h44
          cases e46
          obtain rfl := R.str_ r50
          obtain rfl := R.str_ r51
          refine ⟨_, _, _, _, R.str, rfl, (.inr (O41.s _ _ h47)), (RL.mono (RL.cons R.str (RL.cons R.str RL.nil)) O41.s), _, rfl, ?_⟩
          refine iteD (fun q52 => ?_) (fun q52 => ?_)
          · have hk := wp_if hk q52
            obtain ⟨p53, w54, e55, h56⟩ := R.sm_ f_told
            cases e55
            obtain ⟨p57, w58, e59, h60, hl61⟩ := R.tp_ f_leaves
            cases e59
            refine ⟨_, rfl, _, _, _, _, rfl, rfl, (SqTF O41.s h56), (atI0 _ _), _, rfl, _, _, _, _, R.str, rfl, (.inr (O41.s _ _ h60)), (RL.mono (hl61) O41.s), _, rfl, ?_⟩
            refine iteD (fun q62 => ?_) (fun q62 => ?_)
            · have hk := wp_if hk q62
              obtain ⟨y63, e64, hk⟩ := wp_opt hk
              obtain ⟨p65, w66, e67, h68⟩ := R.sm_int f_told e64
              cases e67
              refine ⟨_, rfl, _, _, _, _, rfl, rfl, (SqTF O41.s h68), rfl, _, _, rfl, rfl, _, rfl, ?_⟩
              refine iteD (fun q69 => ?_) (fun q69 => ?_)
              · have hk := wp_if hk q69
                refine ⟨_, rfl, _, _, rfl, rfl, ?_⟩
                exact hk _ _  O41.g 
              · have hk := wp_el hk q69
                exact hk _ _  O41.g 
            · have hk := wp_el hk q62
              exact hk _ _  O41.g 
          · have hk := wp_el hk q52
            obtain ⟨y70, e71, hk⟩ := wp_opt hk
            obtain ⟨p72, w73, v74, v75, e76, h77, r78, r79⟩ := R.sm_two f_told e71
            cases e76
            refine ⟨_, rfl, _, _, _, _, rfl, rfl, (SqTF O41.s h77), rfl, _, rfl, _, rfl, _, _, _, _, _, _, rfl, O41.pre0, r78, f_leaves, wp_call hk (fun r80 er81 hk F82 H83 g84 => ?_) (fun n hn C H1 hC kp => hn C H1 hC (O41.kp0 kp))⟩
            have O85 := O41.call0 g84
            have S_ := g84.f
            have f_told := f_told.mono S_
            have f_leaves := f_leaves.mono S_
            have h4 := S_ _ _ h4
            have h9 := S_ _ _ h9
            have h16 := h16.mono S_
            have h19 := S_ _ _ h19
            have h37 := S_ _ _ h37
            have h44 := h44.mono S_
            have h47 := S_ _ _ h47
            have h77 := S_ _ _ h77
            have r78 := r78.mono S_
            have r79 := r79.mono S_
            refine ⟨_, rfl, ?_⟩
            refine iteB (fun q86 => ?_) (fun q86 => ?_)
            · have hk := wp_if hk q86
              obtain ⟨y87, e88, hk⟩ := wp_opt hk
              obtain ⟨p89, w90, v91, v92, e93, h94, r95, r96⟩ := R.sm_two f_told e88
              cases e93
              refine ⟨_, rfl, _, _, _, _, rfl, rfl, (SqTF O85.s h94), rfl, _, rfl, _, rfl, _, _, _, _, _, _, rfl, O85.pre0, r96, f_leaves, wp_call hk (fun r97 er98 hk F99 H100 g101 => ?_) (fun n hn C H1 hC kp => hn C H1 hC (O85.kp0 kp))⟩
              have O102 := O85.call0 g101
              have S_ := g101.f
              have f_told := f_told.mono S_
              have f_leaves := f_leaves.mono S_
              have h4 := S_ _ _ h4
              have h9 := S_ _ _ h9
              have h16 := h16.mono S_
              have h19 := S_ _ _ h19
              have h37 := S_ _ _ h37
              have h44 := h44.mono S_
              have h47 := S_ _ _ h47
              have h77 := S_ _ _ h77
              have r78 := r78.mono S_
              have r79 := r79.mono S_
              have h94 := S_ _ _ h94
              have r95 := r95.mono S_
              have r96 := r96.mono S_
              exact hk _ _  O102.g 
            · have hk := wp_el hk q86
              exact hk _ _  O85.g 
abbrev s_is_rule : Stmt := top 6
theorem sc_is_rule : FnScope ["thing", "many", "begin", "over", "join", "told", "sums", "leaves", "one"] ["thing"] (defScope s_is_rule) := ⟨rfl, rfl, rfl, by decide +kernel, rfl, by decide +kernel, by decide +kernel⟩
def m_is_rule (x_thing : (T4 (List Sm) (List Sm) (List Sm) Sm)) : M (Bool) :=
if (1 : Int) ≤ (x_thing.a.length : Int) then (
if (x_thing.a.length : Int) ≤ (3 : Int) then (
if (x_thing.b.length : Int) ≠ (x_thing.a.length : Int) then (
.ok false)
else (
if (x_thing.c.length : Int) ≠ (x_thing.a.length : Int) then (
.ok false)
else (
loopM (fun (y93 : ((List Sm) × (Tp Str))) (st104 : Unit) =>
compS (fun (y123 : Sm) (st140 : Unit) =>
m_may_stand 60 y123 y93.2 (x_thing.a.length : Int) >>= fun r146 =>
if r146 = true then (
.ok (none, ()))
else (
.ok (some y123, ()))) y93.1 () >>= fun q164 =>
if q164.1 ≠ ([] : List Sm) then (
.ok (.rt false))
else (
.ok (.nx ()))) ([(T3.mk (x_thing.a, (Tp.mk [("own" : Str)])) (x_thing.b, (Tp.mk [(T3.mk ("own" : Str) ("tie" : Str) ("more" : Str)).a, (T3.mk ("own" : Str) ("tie" : Str) ("more" : Str)).b, (T3.mk ("own" : Str) ("tie" : Str) ("more" : Str)).c])) (x_thing.c, (Tp.mk [(T3.mk ("own" : Str) ("so" : Str) ("more" : Str)).a, (T3.mk ("own" : Str) ("so" : Str) ("more" : Str)).b, (T3.mk ("own" : Str) ("so" : Str) ("more" : Str)).c]))).a, (T3.mk (x_thing.a, (Tp.mk [("own" : Str)])) (x_thing.b, (Tp.mk [(T3.mk ("own" : Str) ("tie" : Str) ("more" : Str)).a, (T3.mk ("own" : Str) ("tie" : Str) ("more" : Str)).b, (T3.mk ("own" : Str) ("tie" : Str) ("more" : Str)).c])) (x_thing.c, (Tp.mk [(T3.mk ("own" : Str) ("so" : Str) ("more" : Str)).a, (T3.mk ("own" : Str) ("so" : Str) ("more" : Str)).b, (T3.mk ("own" : Str) ("so" : Str) ("more" : Str)).c]))).b, (T3.mk (x_thing.a, (Tp.mk [("own" : Str)])) (x_thing.b, (Tp.mk [(T3.mk ("own" : Str) ("tie" : Str) ("more" : Str)).a, (T3.mk ("own" : Str) ("tie" : Str) ("more" : Str)).b, (T3.mk ("own" : Str) ("tie" : Str) ("more" : Str)).c])) (x_thing.c, (Tp.mk [(T3.mk ("own" : Str) ("so" : Str) ("more" : Str)).a, (T3.mk ("own" : Str) ("so" : Str) ("more" : Str)).b, (T3.mk ("own" : Str) ("so" : Str) ("more" : Str)).c]))).c]) () >>= fun f188 => match f188 with
| .rt z_ => .ok z_
| .nx st182 =>
m_may_stand 60 x_thing.d (Tp.mk [(("own" : Str), ("so" : Str)).1, (("own" : Str), ("so" : Str)).2]) (x_thing.a.length : Int) >>= fun r196 =>
.ok r196)))
else (
.ok false))
else (
.ok false)
def sp_is_rule (mg : Str → Option Value) : Sp := fun vs H Q E => ∃ (F : Hp) (v_thing : V) (x_thing : (T4 (List Sm) (List Sm) (List Sm) Sm)), vs = [v_thing] ∧ Pre F [] H ∧ R (a := (T4 (List Sm) (List Sm) (List Sm) Sm)) F v_thing x_thing ∧
  wp (m_is_rule x_thing) (fun r => ∀ (F' H' : Hp), Gr [] F H F' H' → Q (V.bl r) H')
  (fun n => ∀ (C : Addr) (H' : Hp), mg (Str.ofString n) = some (.ref C) → Kp [] H H' → E (.ref C) none H')
set_option maxHeartbeats 2000000 in
theorem ok_is_rule (nb : Nb mg) (C_may_stand : Ca P w K mg base "may_stand" 61 ["told", "leaves", "many"] (sp_may_stand 60 mg)) (D : Df K mg "is_rule" "is_rule" s_is_rule ["thing"]) : Ca P w K mg base "is_rule" 62 ["thing"] (sp_is_rule mg) := by
  obtain ⟨fa_may_stand, fd_may_stand, G_may_stand, M_may_stand, K_may_stand, B_may_stand⟩ := C_may_stand.ex
  refine Ca.mk' D sc_is_rule (fun vs H Q E h => ?_) (fun q_ f_ cdv A outer s H vs Q E hr h => ?_)
  · obtain ⟨F, _, _, rfl, _⟩ := h
    rfl
  · obtain ⟨F, v_thing, x_thing, rfl, P0, f_thing, hk⟩ := h
    have nd := sc_is_rule.nd
    have hu64 := hr.units
    have hu128 := hu128_of hr
    have O := P0.start
    refine ⟨_, (pss_cons (ps_asg (pv 0) (pg_tup rfl (pgs_cons (pg_name (i := 2) nd rfl (Or.inl rfl)) (pgs_cons (pg_name (i := 3) nd rfl (Or.inl rfl)) (pgs_cons (pg_name (i := 4) nd rfl (Or.inl rfl)) (pgs_cons (pg_name (i := 5) nd rfl (Or.inl rfl)) pgs_nil))))))
  (pss_cons (ps_set (i := 1) nd rfl (Or.inr rfl) (pe_callB call_lenT (by rfl) nb.b_len PySem.boot_len (pa_cons (pv 2) pa_nil)))
  (pss_cons (ps_if (PW.pt (pw_or (pt_not (pt_chain op_le op_le pe_int (pv 1) (C8.pe_gc (by rfl) nb.c_MOST))) (pw_or (pt_cmpR (op_neT Int hu64) (pe_callB call_lenT (by rfl) nb.b_len PySem.boot_len (pa_cons (pv 3) pa_nil)) (pv 1) (nomark _)) (pw_or1 (pt_cmpR (op_neT Int hu64) (pe_callB call_lenT (by rfl) nb.b_len PySem.boot_len (pa_cons (pv 4) pa_nil)) (pv 1) (nomark _)))))) (pss_one (ps_ret pe_bl)) pss_nil)
  (pss_cons (ps_for (passes_of rfl) rfl (piTupK (K := K) rfl (pe_tup (pa_cons (pe_tup (pa_cons (pv 2) (pa_cons (pe_tup (pa_cons pe_str pa_nil)) pa_nil))) (pa_cons (pe_tup (pa_cons (pv 3) (pa_cons (pe_tup (pa_cons pe_str (pa_cons pe_str (pa_cons pe_str pa_nil)))) pa_nil))) (pa_cons (pe_tup (pa_cons (pv 4) (pa_cons (pe_tup (pa_cons pe_str (pa_cons pe_str (pa_cons pe_str pa_nil)))) pa_nil))) pa_nil))))) (pg_tup rfl (pgs_cons (pg_name (i := 6) nd rfl (Or.inl rfl)) (pgs_cons (pg_name (i := 7) nd rfl (Or.inr rfl)) pgs_nil))) (pss_one (ps_if (pt_cmpR (op_neX (List Sm) hu64) (pe_lc (own := [("one", 8)]) (g := gName 8) (tt := _) rfl nd (piListK (K := K) rfl (pv 6)) (blkOk_by (own := [("one", 8)]) (N := ["thing", "many", "begin", "over", "join", "told", "sums", "leaves", "one"]) (sc := defScope s_is_rule) (by decide +kernel)) (fun _ _ _ _ _ => (pg_name (i := 8) nd rfl (Or.inl rfl))) (fun _ _ _ _ _ => (pts_one (pt_not (pt_val (pe_call G_may_stand (hr.mono (by decide)) rfl M_may_stand K_may_stand B_may_stand .nil passL (pa_cons (pv 8) (pa_cons (pv 7) (pa_cons (pv 1) pa_nil)))))))) (fun _ _ _ _ _ => (pv 8))) (pe_lst pa_nil) (nomark _)) (pss_one (ps_ret pe_bl)) pss_nil)))
  (pss_one (ps_ret (pe_call G_may_stand (hr.mono (by decide)) rfl M_may_stand K_may_stand B_may_stand .nil (passes_call (takes_of rfl rfl rfl rfl) fun _ _ _ _ h => h) (pa_cons (pv 5) (pa_cons (pe_tup (pa_cons pe_str (pa_cons pe_str pa_nil))) (pa_cons (pv 1) pa_nil)))))))))), ?_⟩
    obtain ⟨p1, v4, v5, v6, v7, e2, h3, r8, r9, r10, r11⟩ := R.t4_ f_thing
    cases e2
    obtain ⟨p12, w13, e14, h15, hl16⟩ := R.lst_ r8
    cases e14
    refine ⟨_, rfl, _, _, rfl, (SqTF O.s h3), rfl, _, _, rfl, _, _, rfl, _, _, rfl, _, _, rfl, rfl, _, rfl, _, _, _, rfl, (.inl (O.s _ _ h15)), hl16.len, _, rfl, _, _, rfl, rfl, _, rfl, ?_⟩
    refine iteD (fun q17 => ?_) (fun q17 => ?_)
    · have hk := wp_if hk q17
      refine ⟨_, _, rfl, rfl, _, rfl, ?_⟩
      refine iteN (fun q18 => ?_) (fun q18 => ?_)
      · have hk := wp_if hk q18
        obtain ⟨p19, w20, e21, h22, hl23⟩ := R.lst_ r9
        cases e21
        refine ⟨_, rfl, _, _, _, rfl, (.inl (O.s _ _ h22)), hl23.len, _, rfl, _, _, R.int, R.int, _, rfl, ?_⟩
        refine iteD (fun q24 => ?_) (fun q24 => ?_)
        · have hk := wp_if hk q24
          refine iteT ?_
          exact hk _ _  O.g 
        · have hk := wp_el hk q24
          obtain ⟨p25, w26, e27, h28, hl29⟩ := R.lst_ r10
          cases e27
          refine ⟨_, rfl, _, _, _, rfl, (.inl (O.s _ _ h28)), hl29.len, _, rfl, _, _, R.int, R.int, _, rfl, ?_⟩
          refine iteD (fun q30 => ?_) (fun q30 => ?_)
          · have hk := wp_if hk q30
            exact hk _ _  O.g 
          · have hk := wp_el hk q30
            refine ⟨_, rfl, (by show 1 ≤ sizeLine; decide), fun p31 hp32 => ?_⟩
            obtain ⟨F33, O34, S35, h36⟩ := O.putE hp32 (.tup [V.str ("own" : Str)])
            have f_thing := f_thing.mono S35
            have h3 := S35 _ _ h3
            have r8 := r8.mono S35
            have r9 := r9.mono S35
            have r10 := r10.mono S35
            have r11 := r11.mono S35
            have h15 := S35 _ _ h15
            have hl16 := hl16.mono S35
            have h22 := S35 _ _ h22
            have hl23 := hl23.mono S35
            have h28 := S35 _ _ h28
            have hl29 := hl29.mono S35
            have h37 := R.of_nam h36
            refine ⟨(by show 2 ≤ sizeLine; decide), fun p38 hp39 => ?_⟩
            have h45 := (R.tp1 h37)
            obtain ⟨F40, O41, S42, h43⟩ := O34.putE hp39 (.tup [V.ref p12, V.ref p31])
            have f_thing := f_thing.mono S42
            have h3 := S42 _ _ h3
            have r8 := r8.mono S42
            have r9 := r9.mono S42
            have r10 := r10.mono S42
            have r11 := r11.mono S42
            have h15 := S42 _ _ h15
            have hl16 := hl16.mono S42
            have h22 := S42 _ _ h22
            have hl23 := hl23.mono S42
            have h28 := S42 _ _ h28
            have hl29 := hl29.mono S42
            have h37 := h37.mono S42
            have h45 := h45.mono S42
            have h44 : R (a := ((List Sm) × (Tp Str))) F40 (.ref p38) (x_thing.a, (Tp.mk [("own" : Str)])) := R.t2 h43 r8 h45
            refine ⟨_, rfl, (by show 3 ≤ sizeLine; decide), fun p46 hp47 => ?_⟩
            obtain ⟨F48, O49, S50, h51⟩ := O41.putE hp47 (.tup [V.str ("own" : Str), V.str ("tie" : Str), V.str ("more" : Str)])
            have f_thing := f_thing.mono S50
            have h3 := S50 _ _ h3
            have r8 := r8.mono S50
            have r9 := r9.mono S50
            have r10 := r10.mono S50
            have r11 := r11.mono S50
            have h15 := S50 _ _ h15
            have hl16 := hl16.mono S50
            have h22 := S50 _ _ h22
            have hl23 := hl23.mono S50
            have h28 := S50 _ _ h28
            have hl29 := hl29.mono S50
            have h37 := h37.mono S50
            have h45 := h45.mono S50
            have h44 := h44.mono S50
            have h52 : R (a := (T3 Str Str Str)) F48 (.ref p46) (T3.mk ("own" : Str) ("tie" : Str) ("more" : Str)) := R.t3 h51 R.str R.str R.str
            refine ⟨(by show 2 ≤ sizeLine; decide), fun p53 hp54 => ?_⟩
            have h60 := (R.tp3 h52)
            obtain ⟨F55, O56, S57, h58⟩ := O49.putE hp54 (.tup [V.ref p19, V.ref p46])
            have f_thing := f_thing.mono S57
            have h3 := S57 _ _ h3
            have r8 := r8.mono S57
            have r9 := r9.mono S57
            have r10 := r10.mono S57
            have r11 := r11.mono S57
            have h15 := S57 _ _ h15
            have hl16 := hl16.mono S57
            have h22 := S57 _ _ h22
            have hl23 := hl23.mono S57
            have h28 := S57 _ _ h28
            have hl29 := hl29.mono S57
            have h37 := h37.mono S57
            have h45 := h45.mono S57
            have h44 := h44.mono S57
            have h52 := h52.mono S57
            have h60 := h60.mono S57
            have h59 : R (a := ((List Sm) × (Tp Str))) F55 (.ref p53) (x_thing.b, (Tp.mk [(T3.mk ("own" : Str) ("tie" : Str) ("more" : Str)).a, (T3.mk ("own" : Str) ("tie" : Str) ("more" : Str)).b, (T3.mk ("own" : Str) ("tie" : Str) ("more" : Str)).c])) := R.t2 h58 r9 h60
            refine ⟨_, rfl, (by show 3 ≤ sizeLine; decide), fun p61 hp62 => ?_⟩
            obtain ⟨F63, O64, S65, h66⟩ := O56.putE hp62 (.tup [V.str ("own" : Str), V.str ("so" : Str), V.str ("more" : Str)])
            have f_thing := f_thing.mono S65
            have h3 := S65 _ _ h3
            have r8 := r8.mono S65
            have r9 := r9.mono S65
            have r10 := r10.mono S65
            have r11 := r11.mono S65
            have h15 := S65 _ _ h15
            have hl16 := hl16.mono S65
            have h22 := S65 _ _ h22
            have hl23 := hl23.mono S65
            have h28 := S65 _ _ h28
            have hl29 := hl29.mono S65
            have h37 := h37.mono S65
            have h45 := h45.mono S65
            have h44 := h44.mono S65
            have h52 := h52.mono S65
            have h60 := h60.mono S65
            have h59 := h59.mono S65
            have h67 : R (a := (T3 Str Str Str)) F63 (.ref p61) (T3.mk ("own" : Str) ("so" : Str) ("more" : Str)) := R.t3 h66 R.str R.str R.str
            refine ⟨(by show 2 ≤ sizeLine; decide), fun p68 hp69 => ?_⟩
            have h75 := (R.tp3 h67)
            obtain ⟨F70, O71, S72, h73⟩ := O64.putE hp69 (.tup [V.ref p25, V.ref p61])
            have f_thing := f_thing.mono S72
            have h3 := S72 _ _ h3
            have r8 := r8.mono S72
            have r9 := r9.mono S72
            have r10 := r10.mono S72
            have r11 := r11.mono S72
            have h15 := S72 _ _ h15
            have hl16 := hl16.mono S72
            have h22 := S72 _ _ h22
            have hl23 := hl23.mono S72
            have h28 := S72 _ _ h28
            have hl29 := hl29.mono S72
            have h37 := h37.mono S72
            have h45 := h45.mono S72
            have h44 := h44.mono S72
            have h52 := h52.mono S72
            have h60 := h60.mono S72
            have h59 := h59.mono S72
            have h67 := h67.mono S72
            have h75 := h75.mono S72
            have h74 : R (a := ((List Sm) × (Tp Str))) F70 (.ref p68) (x_thing.c, (Tp.mk [(T3.mk ("own" : Str) ("so" : Str) ("more" : Str)).a, (T3.mk ("own" : Str) ("so" : Str) ("more" : Str)).b, (T3.mk ("own" : Str) ("so" : Str) ("more" : Str)).c])) := R.t2 h73 r10 h75
            refine ⟨(by show 3 ≤ sizeLine; decide), fun p76 hp77 => ?_⟩
            obtain ⟨F78, O79, S80, h81⟩ := O71.putE hp77 (.tup [V.ref p38, V.ref p53, V.ref p68])
            have f_thing := f_thing.mono S80
            have h3 := S80 _ _ h3
            have r8 := r8.mono S80
            have r9 := r9.mono S80
            have r10 := r10.mono S80
            have r11 := r11.mono S80
            have h15 := S80 _ _ h15
            have hl16 := hl16.mono S80
            have h22 := S80 _ _ h22
            have hl23 := hl23.mono S80
            have h28 := S80 _ _ h28
            have hl29 := hl29.mono S80
            have h37 := h37.mono S80
            have h45 := h45.mono S80
            have h44 := h44.mono S80
            have h52 := h52.mono S80
            have h60 := h60.mono S80
            have h59 := h59.mono S80
            have h67 := h67.mono S80
            have h75 := h75.mono S80
            have h74 := h74.mono S80
            have h82 : R (a := (T3 ((List Sm) × (Tp Str)) ((List Sm) × (Tp Str)) ((List Sm) × (Tp Str)))) F78 (.ref p76) (T3.mk (x_thing.a, (Tp.mk [("own" : Str)])) (x_thing.b, (Tp.mk [(T3.mk ("own" : Str) ("tie" : Str) ("more" : Str)).a, (T3.mk ("own" : Str) ("tie" : Str) ("more" : Str)).b, (T3.mk ("own" : Str) ("tie" : Str) ("more" : Str)).c])) (x_thing.c, (Tp.mk [(T3.mk ("own" : Str) ("so" : Str) ("more" : Str)).a, (T3.mk ("own" : Str) ("so" : Str) ("more" : Str)).b, (T3.mk ("own" : Str) ("so" : Str) ("more" : Str)).c]))) := R.t3 h81 h44 h59 h74
            obtain ⟨p83, v86, v87, v88, e84, h85, r89, r90, r91⟩ := R.t3_ h82
            cases e84
            have hl92 : RL (a := ((List Sm) × (Tp Str))) F78 [v86, v87, v88] [(T3.mk (x_thing.a, (Tp.mk [("own" : Str)])) (x_thing.b, (Tp.mk [(T3.mk ("own" : Str) ("tie" : Str) ("more" : Str)).a, (T3.mk ("own" : Str) ("tie" : Str) ("more" : Str)).b, (T3.mk ("own" : Str) ("tie" : Str) ("more" : Str)).c])) (x_thing.c, (Tp.mk [(T3.mk ("own" : Str) ("so" : Str) ("more" : Str)).a, (T3.mk ("own" : Str) ("so" : Str) ("more" : Str)).b, (T3.mk ("own" : Str) ("so" : Str) ("more" : Str)).c]))).a, (T3.mk (x_thing.a, (Tp.mk [("own" : Str)])) (x_thing.b, (Tp.mk [(T3.mk ("own" : Str) ("tie" : Str) ("more" : Str)).a, (T3.mk ("own" : Str) ("tie" : Str) ("more" : Str)).b, (T3.mk ("own" : Str) ("tie" : Str) ("more" : Str)).c])) (x_thing.c, (Tp.mk [(T3.mk ("own" : Str) ("so" : Str) ("more" : Str)).a, (T3.mk ("own" : Str) ("so" : Str) ("more" : Str)).b, (T3.mk ("own" : Str) ("so" : Str) ("more" : Str)).c]))).b, (T3.mk (x_thing.a, (Tp.mk [("own" : Str)])) (x_thing.b, (Tp.mk [(T3.mk ("own" : Str) ("tie" : Str) ("more" : Str)).a, (T3.mk ("own" : Str) ("tie" : Str) ("more" : Str)).b, (T3.mk ("own" : Str) ("tie" : Str) ("more" : Str)).c])) (x_thing.c, (Tp.mk [(T3.mk ("own" : Str) ("so" : Str) ("more" : Str)).a, (T3.mk ("own" : Str) ("so" : Str) ("more" : Str)).b, (T3.mk ("own" : Str) ("so" : Str) ("more" : Str)).c]))).c] := RL.cons r89 (RL.cons r90 (RL.cons r91 RL.nil))
            obtain ⟨L94, hL95, hLs96, hLd97⟩ := loopM_L hk
            refine ⟨_, rfl, ⟨_, (SqTF O79.s h85)⟩, ?_⟩
            refine for_tup (K := K) (xs := [v86, v87, v88]) (fun i σ H => ∃ (F_ : Hp) (st : Unit) (t_0 : Option V) (t_1 : Option V), σ = [some (V.ref p1), some (V.int (x_thing.a.length : Int)), some (V.ref p12), some (V.ref p19), some (V.ref p25), some v7, t_0, t_1, none] ∧ Same F78 F_ ∧ Ow _ F_ [] H ∧ L94 (List.drop i ([(T3.mk (x_thing.a, (Tp.mk [("own" : Str)])) (x_thing.b, (Tp.mk [(T3.mk ("own" : Str) ("tie" : Str) ("more" : Str)).a, (T3.mk ("own" : Str) ("tie" : Str) ("more" : Str)).b, (T3.mk ("own" : Str) ("tie" : Str) ("more" : Str)).c])) (x_thing.c, (Tp.mk [(T3.mk ("own" : Str) ("so" : Str) ("more" : Str)).a, (T3.mk ("own" : Str) ("so" : Str) ("more" : Str)).b, (T3.mk ("own" : Str) ("so" : Str) ("more" : Str)).c]))).a, (T3.mk (x_thing.a, (Tp.mk [("own" : Str)])) (x_thing.b, (Tp.mk [(T3.mk ("own" : Str) ("tie" : Str) ("more" : Str)).a, (T3.mk ("own" : Str) ("tie" : Str) ("more" : Str)).b, (T3.mk ("own" : Str) ("tie" : Str) ("more" : Str)).c])) (x_thing.c, (Tp.mk [(T3.mk ("own" : Str) ("so" : Str) ("more" : Str)).a, (T3.mk ("own" : Str) ("so" : Str) ("more" : Str)).b, (T3.mk ("own" : Str) ("so" : Str) ("more" : Str)).c]))).b, (T3.mk (x_thing.a, (Tp.mk [("own" : Str)])) (x_thing.b, (Tp.mk [(T3.mk ("own" : Str) ("tie" : Str) ("more" : Str)).a, (T3.mk ("own" : Str) ("tie" : Str) ("more" : Str)).b, (T3.mk ("own" : Str) ("tie" : Str) ("more" : Str)).c])) (x_thing.c, (Tp.mk [(T3.mk ("own" : Str) ("so" : Str) ("more" : Str)).a, (T3.mk ("own" : Str) ("so" : Str) ("more" : Str)).b, (T3.mk ("own" : Str) ("so" : Str) ("more" : Str)).c]))).c])) st) ⟨F78, (), none, none, rfl, Same.refl _, O79, hL95⟩ (fun i_ σ_ H_ _ hp_ => ?_) ?_ ?_
            · obtain ⟨_, _, _, _, _, hS_, hO_, _⟩ := hp_
              exact SqTF hO_.s (hS_ _ _ h85)
            · rintro i98 x99 sg100 H101 hi102 ⟨F107, st104, t105, t106, rfl, S103, O108, hL95⟩
              have f_thing := f_thing.mono S103
              have h3 := S103 _ _ h3
              have r8 := r8.mono S103
              have r9 := r9.mono S103
              have r10 := r10.mono S103
              have r11 := r11.mono S103
              have h15 := S103 _ _ h15
              have hl16 := hl16.mono S103
              have h22 := S103 _ _ h22
              have hl23 := hl23.mono S103
              have h28 := S103 _ _ h28
              have hl29 := hl29.mono S103
              have h37 := h37.mono S103
              have h45 := h45.mono S103
              have h44 := h44.mono S103
              have h52 := h52.mono S103
              have h60 := h60.mono S103
              have h59 := h59.mono S103
              have h67 := h67.mono S103
              have h75 := h75.mono S103
              have h74 := h74.mono S103
              have h82 := h82.mono S103
              have h85 := S103 _ _ h85
              have r89 := r89.mono S103
              have r90 := r90.mono S103
              have r91 := r91.mono S103
              have hl92 := hl92.mono S103
              obtain ⟨y93, e109, r110⟩ := RL.got hl92 hi102
              rw [drop_at e109] at hL95
              have hk := hLs96 _ _ _ hL95
              obtain ⟨p111, v114, v115, e112, h113, r116, r117⟩ := R.t2_ r110
              cases e112
              obtain ⟨p118, w119, e120, h121, hl122⟩ := R.lst_ r116
              cases e120
              obtain ⟨c128, L124, hL125, hLs126, hLd127⟩ := compS_L hk
              refine ⟨_, _, rfl, (SqTF O108.s h113), rfl, _, _, rfl, _, _, rfl, rfl, _, rfl, _, rfl, ⟨_, (SqLF O108.s h121)⟩, fun p129 hp130 => ?_⟩
              have z153 := O108.was hp130
              refine lc_list (K := K) (xs := w119) (fun i H => ∃ (F_ : Hp) (st : Unit) (acc : List Sm) (wa : List V), Same F107 F_ ∧ Ow _ F_ [(p129, .lst wa)] H ∧ RL F_ wa acc ∧ wa.length ≤ i ∧ L124 (List.drop i y93.1) acc st) ⟨F107, (), [], [], Same.refl _, O108.new hp130, RL.nil, Nat.zero_le _, hL125⟩ (fun i_ H_ _ hp_ => ?_) ?_ ?_
              · obtain ⟨_, _, _, _, hS_, hO_, _⟩ := hp_
                exact SqLF hO_.s (hS_ _ _ h121)
              · rintro i131 x132 H133 hi134 ⟨F139, st140, acc136, wa137, S141, O143, hl142, la138, hL125⟩
                have f_thing := f_thing.mono S141
                have h3 := S141 _ _ h3
                have r8 := r8.mono S141
                have r9 := r9.mono S141
                have r10 := r10.mono S141
                have r11 := r11.mono S141
                have h15 := S141 _ _ h15
                have hl16 := hl16.mono S141
                have h22 := S141 _ _ h22
                have hl23 := hl23.mono S141
                have h28 := S141 _ _ h28
                have hl29 := hl29.mono S141
                have h37 := h37.mono S141
                have h45 := h45.mono S141
                have h44 := h44.mono S141
                have h52 := h52.mono S141
                have h60 := h60.mono S141
                have h59 := h59.mono S141
                have h67 := h67.mono S141
                have h75 := h75.mono S141
                have h74 := h74.mono S141
                have h82 := h82.mono S141
                have h85 := S141 _ _ h85
                have r89 := r89.mono S141
                have r90 := r90.mono S141
                have r91 := r91.mono S141
                have hl92 := hl92.mono S141
                have S103 := S103.trans S141
                have r110 := r110.mono S141
                have h113 := S141 _ _ h113
                have r116 := r116.mono S141
                have r117 := r117.mono S141
                have h121 := S141 _ _ h121
                have hl122 := hl122.mono S141
                obtain ⟨y123, e144, r145⟩ := RL.got hl122 hi134
                rw [drop_at e144] at hL125
                have hk := hLs126 _ _ _ _ hL125
                refine ⟨rfl, _, rfl, _, rfl, _, rfl, _, _, _, _, _, _, rfl, O143.pre0, r145, r117, wp_call hk (fun r146 er147 hk F148 H149 g150 => ?_) (fun n hn => hn.elim)⟩
                have O151 := O143.call0 g150
                have S_ := g150.f
                have f_thing := f_thing.mono S_
                have h3 := S_ _ _ h3
                have r8 := r8.mono S_
                have r9 := r9.mono S_
                have r10 := r10.mono S_
                have r11 := r11.mono S_
                have h15 := S_ _ _ h15
                have hl16 := hl16.mono S_
                have h22 := S_ _ _ h22
                have hl23 := hl23.mono S_
                have h28 := S_ _ _ h28
                have hl29 := hl29.mono S_
                have h37 := h37.mono S_
                have h45 := h45.mono S_
                have h44 := h44.mono S_
                have h52 := h52.mono S_
                have h60 := h60.mono S_
                have h59 := h59.mono S_
                have h67 := h67.mono S_
                have h75 := h75.mono S_
                have h74 := h74.mono S_
                have h82 := h82.mono S_
                have h85 := S_ _ _ h85
                have r89 := r89.mono S_
                have r90 := r90.mono S_
                have r91 := r91.mono S_
                have hl92 := hl92.mono S_
                have S103 := S103.trans S_
                have r110 := r110.mono S_
                have h113 := S_ _ _ h113
                have r116 := r116.mono S_
                have r117 := r117.mono S_
                have h121 := S_ _ _ h121
                have hl122 := hl122.mono S_
                have S141 := S141.trans S_
                have hl142 := hl142.mono S_
                have r145 := r145.mono S_
                refine ⟨_, rfl, ?_⟩
                refine iteBN (fun q152 => ?_) (fun q152 => ?_)
                · have hk := wp_if hk q152
                  exact ⟨F148, (), acc136, wa137, S141, O151, hl142, Nat.le_succ_of_le la138, hk⟩
                · have hk := wp_el hk q152
                  refine ⟨_, rfl, _, (O151.at 0 rfl), (comp_len la138 hi134 hl122.len c128), ?_⟩
                  exact ⟨F148, (), acc136 ++ [y123], wa137 ++ [x132], S141, O151.set 0 (.lst (wa137 ++ [x132])) rfl, RL.snoc hl142 r145, by rw [List.length_append]; exact Nat.succ_le_succ la138, hk⟩
              rintro H154 ⟨F155, st156, acc157, wa158, S159, O160, hl161, la162, hL163⟩
              rw [drop_end hl122.len] at hL163
              have hk := hLd127 _ _ hL163
              have f_thing := f_thing.mono S159
              have h3 := S159 _ _ h3
              have r8 := r8.mono S159
              have r9 := r9.mono S159
              have r10 := r10.mono S159
              have r11 := r11.mono S159
              have h15 := S159 _ _ h15
              have hl16 := hl16.mono S159
              have h22 := S159 _ _ h22
              have hl23 := hl23.mono S159
              have h28 := S159 _ _ h28
              have hl29 := hl29.mono S159
              have h37 := h37.mono S159
              have h45 := h45.mono S159
              have h44 := h44.mono S159
              have h52 := h52.mono S159
              have h60 := h60.mono S159
              have h59 := h59.mono S159
              have h67 := h67.mono S159
              have h75 := h75.mono S159
              have h74 := h74.mono S159
              have h82 := h82.mono S159
              have h85 := S159 _ _ h85
              have r89 := r89.mono S159
              have r90 := r90.mono S159
              have r91 := r91.mono S159
              have hl92 := hl92.mono S159
              have S103 := S103.trans S159
              have r110 := r110.mono S159
              have h113 := S159 _ _ h113
              have r116 := r116.mono S159
              have r117 := r117.mono S159
              have h121 := S159 _ _ h121
              have hl122 := hl122.mono S159
              obtain ⟨F165, O166, S167, h168⟩ := O160.frzE 0 rfl z153
              have f_thing := f_thing.mono S167
              have h3 := S167 _ _ h3
              have r8 := r8.mono S167
              have r9 := r9.mono S167
              have r10 := r10.mono S167
              have r11 := r11.mono S167
              have h15 := S167 _ _ h15
              have hl16 := hl16.mono S167
              have h22 := S167 _ _ h22
              have hl23 := hl23.mono S167
              have h28 := S167 _ _ h28
              have hl29 := hl29.mono S167
              have h37 := h37.mono S167
              have h45 := h45.mono S167
              have h44 := h44.mono S167
              have h52 := h52.mono S167
              have h60 := h60.mono S167
              have h59 := h59.mono S167
              have h67 := h67.mono S167
              have h75 := h75.mono S167
              have h74 := h74.mono S167
              have h82 := h82.mono S167
              have h85 := S167 _ _ h85
              have r89 := r89.mono S167
              have r90 := r90.mono S167
              have r91 := r91.mono S167
              have hl92 := hl92.mono S167
              have S103 := S103.trans S167
              have r110 := r110.mono S167
              have h113 := S167 _ _ h113
              have r116 := r116.mono S167
              have r117 := r117.mono S167
              have h121 := S167 _ _ h121
              have hl122 := hl122.mono S167
              have hl161 := hl161.mono S167
              have h169 := R.lst (a := Sm) h168 hl161
              refine ⟨(by show 0 ≤ sizeLine; decide), fun p170 hp171 => ?_⟩
              have hl177 : RL (a := Sm) F165 ([]) ([] : List Sm) := RL.nil
              obtain ⟨F172, O173, S174, h175⟩ := O166.putE hp171 (.lst ([]))
              have f_thing := f_thing.mono S174
              have h3 := S174 _ _ h3
              have r8 := r8.mono S174
              have r9 := r9.mono S174
              have r10 := r10.mono S174
              have r11 := r11.mono S174
              have h15 := S174 _ _ h15
              have hl16 := hl16.mono S174
              have h22 := S174 _ _ h22
              have hl23 := hl23.mono S174
              have h28 := S174 _ _ h28
              have hl29 := hl29.mono S174
              have h37 := h37.mono S174
              have h45 := h45.mono S174
              have h44 := h44.mono S174
              have h52 := h52.mono S174
              have h60 := h60.mono S174
              have h59 := h59.mono S174
              have h67 := h67.mono S174
              have h75 := h75.mono S174
              have h74 := h74.mono S174
              have h82 := h82.mono S174
              have h85 := S174 _ _ h85
              have r89 := r89.mono S174
              have r90 := r90.mono S174
              have r91 := r91.mono S174
              have hl92 := hl92.mono S174
              have S103 := S103.trans S174
              have r110 := r110.mono S174
              have h113 := S174 _ _ h113
              have r116 := r116.mono S174
              have r117 := r117.mono S174
              have h121 := S174 _ _ h121
              have hl122 := hl122.mono S174
              have h169 := h169.mono S174
              have hl177 := hl177.mono S174
              have h176 := R.lst (a := Sm) h175 hl177
              refine ⟨_, _, (R.mono h169 O173.s), (R.mono h176 O173.s), (Nat.le_trans (Nat.min_le_right _ _) (by decide)), _, rfl, ?_⟩
              refine iteD (fun q178 => ?_) (fun q178 => ?_)
              · have hk := wp_if hk q178
                exact hk _ _  O173.g 
              · have hk := wp_el hk q178
                exact ⟨F172, (), some (V.ref p118), some v115, rfl, S103, O173, hk⟩
            rintro sg179 H180 ⟨F186, st182, t184, t185, rfl, S181, O187, hL183⟩
            rw [drop_end hl92.len] at hL183
            have hk := hLd97 _ hL183
            have f_thing := f_thing.mono S181
            have h3 := S181 _ _ h3
            have r8 := r8.mono S181
            have r9 := r9.mono S181
            have r10 := r10.mono S181
            have r11 := r11.mono S181
            have h15 := S181 _ _ h15
            have hl16 := hl16.mono S181
            have h22 := S181 _ _ h22
            have hl23 := hl23.mono S181
            have h28 := S181 _ _ h28
            have hl29 := hl29.mono S181
            have h37 := h37.mono S181
            have h45 := h45.mono S181
            have h44 := h44.mono S181
            have h52 := h52.mono S181
            have h60 := h60.mono S181
            have h59 := h59.mono S181
            have h67 := h67.mono S181
            have h75 := h75.mono S181
            have h74 := h74.mono S181
            have h82 := h82.mono S181
            have h85 := S181 _ _ h85
            have r89 := r89.mono S181
            have r90 := r90.mono S181
            have r91 := r91.mono S181
            have hl92 := hl92.mono S181
            refine ⟨_, rfl, (by show 2 ≤ sizeLine; decide), fun p189 hp190 => ?_⟩
            obtain ⟨F191, O192, S193, h194⟩ := O187.putE hp190 (.tup [V.str ("own" : Str), V.str ("so" : Str)])
            have f_thing := f_thing.mono S193
            have h3 := S193 _ _ h3
            have r8 := r8.mono S193
            have r9 := r9.mono S193
            have r10 := r10.mono S193
            have r11 := r11.mono S193
            have h15 := S193 _ _ h15
            have hl16 := hl16.mono S193
            have h22 := S193 _ _ h22
            have hl23 := hl23.mono S193
            have h28 := S193 _ _ h28
            have hl29 := hl29.mono S193
            have h37 := h37.mono S193
            have h45 := h45.mono S193
            have h44 := h44.mono S193
            have h52 := h52.mono S193
            have h60 := h60.mono S193
            have h59 := h59.mono S193
            have h67 := h67.mono S193
            have h75 := h75.mono S193
            have h74 := h74.mono S193
            have h82 := h82.mono S193
            have h85 := S193 _ _ h85
            have r89 := r89.mono S193
            have r90 := r90.mono S193
            have r91 := r91.mono S193
            have hl92 := hl92.mono S193
            have h195 : R (a := (Str × Str)) F191 (.ref p189) (("own" : Str), ("so" : Str)) := R.t2 h194 R.str R.str
            refine ⟨_, rfl, _, _, _, _, _, _, rfl, O192.pre0, r11, (R.tp2 h195), wp_call hk (fun r196 er197 hk F198 H199 g200 => ?_) (fun n hn C H1 hC kp => hn C H1 hC (O192.kp0 kp))⟩
            have O201 := O192.call0 g200
            have S_ := g200.f
            have f_thing := f_thing.mono S_
            have h3 := S_ _ _ h3
            have r8 := r8.mono S_
            have r9 := r9.mono S_
            have r10 := r10.mono S_
            have r11 := r11.mono S_
            have h15 := S_ _ _ h15
            have hl16 := hl16.mono S_
            have h22 := S_ _ _ h22
            have hl23 := hl23.mono S_
            have h28 := S_ _ _ h28
            have hl29 := hl29.mono S_
            have h37 := h37.mono S_
            have h45 := h45.mono S_
            have h44 := h44.mono S_
            have h52 := h52.mono S_
            have h60 := h60.mono S_
            have h59 := h59.mono S_
            have h67 := h67.mono S_
            have h75 := h75.mono S_
            have h74 := h74.mono S_
            have h82 := h82.mono S_
            have h85 := S_ _ _ h85
            have r89 := r89.mono S_
            have r90 := r90.mono S_
            have r91 := r91.mono S_
            have hl92 := hl92.mono S_
            have h195 := h195.mono S_
            exact hk _ _  O201.g 
      · have hk := wp_el hk q18
        refine iteT ?_
        exact hk _ _  O.g 
    · have hk := wp_el hk q17
      refine ⟨_, rfl, ?_⟩
      refine iteNF ?_
      refine iteT ?_
      exact hk _ _  O.g 
abbrev s_need_rule : Stmt := top 7
theorem sc_need_rule : FnScope ["rule"] ["rule"] (defScope s_need_rule) := ⟨rfl, rfl, rfl, by decide +kernel, rfl, by decide +kernel, by decide +kernel⟩
def m_need_rule (x_rule : (T4 (List Sm) (List Sm) (List Sm) Sm)) : M (Unit) :=
m_is_rule x_rule >>= fun r1 =>
if r1 = true then (
.ok ())
else (
raise "NoRule")
def sp_need_rule (mg : Str → Option Value) : Sp := fun vs H Q E => ∃ (F : Hp) (v_rule : V) (x_rule : (T4 (List Sm) (List Sm) (List Sm) Sm)), vs = [v_rule] ∧ Pre F [] H ∧ R (a := (T4 (List Sm) (List Sm) (List Sm) Sm)) F v_rule x_rule ∧
  wp (m_need_rule x_rule) (fun r => ∀ (F' H' : Hp), Gr [] F H F' H' → Q .non H')
  (fun n => ∀ (C : Addr) (H' : Hp), mg (Str.ofString n) = some (.ref C) → Kp [] H H' → E (.ref C) none H')
set_option maxHeartbeats 2000000 in
theorem ok_need_rule (nb : Nb mg) (C_is_rule : Ca P w K mg base "is_rule" 62 ["thing"] (sp_is_rule mg)) (E_NoRule : ∃ C, Xc K mg "NoRule" C) (D : Df K mg "need_rule" "need_rule" s_need_rule ["rule"]) : Ca P w K mg base "need_rule" 63 ["rule"] (sp_need_rule mg) := by
  obtain ⟨fa_is_rule, fd_is_rule, G_is_rule, M_is_rule, K_is_rule, B_is_rule⟩ := C_is_rule.ex
  obtain ⟨XC_NoRule, X_NoRule⟩ := E_NoRule
  refine Ca.mk' D sc_need_rule (fun vs H Q E h => ?_) (fun q_ f_ cdv A outer s H vs Q E hr h => ?_)
  · obtain ⟨F, _, _, rfl, _⟩ := h
    rfl
  · obtain ⟨F, v_rule, x_rule, rfl, P0, f_rule, hk⟩ := h
    have nd := sc_need_rule.nd
    have hu64 := hr.units
    have hu128 := hu128_of hr
    have O := P0.start
    refine ⟨_, (pss_one (ps_if (pt_not (pt_val (pe_call G_is_rule (hr.mono (by decide)) rfl M_is_rule K_is_rule B_is_rule .nil (passes_call (takes_of rfl rfl rfl rfl) fun _ _ _ _ h => h) (pa_cons (pv 0) pa_nil)))) (pss_one (ps_raise rfl (takes_of rfl rfl rfl rfl) (pmk_own PySem.F.excBase_ValueError X_NoRule.x X_NoRule.g X_NoRule.k (raises_own X_NoRule.b X_NoRule.t) rfl))) pss_nil)), ?_⟩
    refine ⟨_, rfl, _, _, _, rfl, O.pre0, f_rule, wp_call hk (fun r1 er2 hk F3 H4 g5 => ?_) (fun n hn C H1 hC kp => hn C H1 hC (O.kp0 kp))⟩
    have O6 := O.call0 g5
    have S_ := g5.f
    have f_rule := f_rule.mono S_
    refine ⟨_, rfl, ?_⟩
    refine iteBN (fun q7 => ?_) (fun q7 => ?_)
    · have hk := wp_if hk q7
      exact hk _ _  O6.g 
    · have hk := wp_el hk q7
      exact hk _ _ X_NoRule.g O6.kp
abbrev s_sum_at : Stmt := top 8
theorem sc_sum_at : FnScope ["sum_told", "own", "tie", "so", "more", "word", "one", "other", "part"] ["sum_told", "own", "tie", "so", "more"] (defScope s_sum_at) := ⟨rfl, rfl, rfl, by decide +kernel, rfl, by decide +kernel, by decide +kernel⟩
def m_sum_at : Nat → Sm → Int → Int → (List Int) → (List Int) → M (Int)
  | 0, _, _, _, _, _ => bad
  | k_ + 1, x_sum_told, x_own, x_tie, x_so, x_more =>
    if (Sm.word x_sum_told) = ("number" : Str) then (
    opt (Sm.int? x_sum_told) >>= fun y6 =>
    .ok y6)
    else (
    if (Sm.word x_sum_told) = ("own" : Str) then (
    .ok x_own)
    else (
    if (Sm.word x_sum_told) = ("tie" : Str) then (
    .ok x_tie)
    else (
    if (Sm.word x_sum_told) = ("so" : Str) then (
    opt (Sm.int? x_sum_told) >>= fun y15 =>
    opt (atI x_so y15) >>= fun y26 =>
    .ok y26)
    else (
    if (Sm.word x_sum_told) = ("more" : Str) then (
    opt (Sm.int? x_sum_told) >>= fun y32 =>
    opt (atI x_more y32) >>= fun y43 =>
    .ok y43)
    else (
    opt (Sm.two? x_sum_told) >>= fun y48 =>
    compS (fun (y65 : Sm) (st82 : Unit) =>
    m_sum_at k_ y65 x_own x_tie x_so x_more >>= fun r88 =>
    .ok (some r88, ())) ([y48.1, y48.2]) () >>= fun q105 =>
    two2 q105.1 >>= fun (x116, y117) =>
    if (Sm.word x_sum_told) = ("plus" : Str) then (
    .ok (x116 + y117))
    else (
    if (Sm.word x_sum_told) = ("less" : Str) then (
    .ok (x116 - y117))
    else (
    if (Sm.word x_sum_told) = ("times" : Str) then (
    chk (CMulW x116 y117) >>= fun _ =>
    .ok (x116 * y117))
    else (
    if (Sm.word x_sum_told) = ("most" : Str) then (
    .ok (if y117 > x116 then y117 else x116))
    else (
    .ok (if y117 < x116 then y117 else x116))))))))))
def sp_sum_at (k_ : Nat) (mg : Str → Option Value) : Sp := fun vs H Q E => ∃ (F : Hp) (v_sum_told : V) (x_sum_told : Sm) (x_own : Int) (x_tie : Int) (v_so : V) (x_so : (List Int)) (v_more : V) (x_more : (List Int)), vs = [v_sum_told, V.int x_own, V.int x_tie, v_so, v_more] ∧ Pre F [] H ∧ R (a := Sm) F v_sum_told x_sum_told ∧ R (a := (List Int)) F v_so x_so ∧ R (a := (List Int)) F v_more x_more ∧
  wp (m_sum_at k_ x_sum_told x_own x_tie x_so x_more) (fun r => ∀ (F' H' : Hp), Gr [] F H F' H' → Q (V.int r) H')
  (fun n => ∀ (C : Addr) (H' : Hp), mg (Str.ofString n) = some (.ref C) → Kp [] H H' → E (.ref C) none H')
set_option maxHeartbeats 2000000 in
theorem ok_sum_at (nb : Nb mg) (D : Df K mg "sum_at" "sum_at" s_sum_at ["sum_told", "own", "tie", "so", "more"]) : ∀ k_ : Nat, Ca P w K mg base "sum_at" (k_ + 1) ["sum_told", "own", "tie", "so", "more"] (sp_sum_at k_ mg) := by
  intro k_
  induction k_ with
  | zero =>
    refine Ca.mk' D sc_sum_at (fun vs H Q E h => ?_) (fun q_ f_ cdv A outer s H vs Q E hr h => ?_)
    · obtain ⟨F, _, _, _, _, _, _, _, _, rfl, _⟩ := h
      rfl
    · obtain ⟨F, _, _, _, _, _, _, _, _, rfl, _, _, _, _, hk⟩ := h
      exact hk.elim
  | succ k_ ih_ =>
    have C_sum_at := ih_
    obtain ⟨fa_sum_at, fd_sum_at, G_sum_at, M_sum_at, K_sum_at, B_sum_at⟩ := C_sum_at.ex
    refine Ca.mk' D sc_sum_at (fun vs H Q E h => ?_) (fun q_ f_ cdv A outer s H vs Q E hr h => ?_)
    · obtain ⟨F, _, _, _, _, _, _, _, _, rfl, _⟩ := h
      rfl
    · obtain ⟨F, v_sum_told, x_sum_told, x_own, x_tie, v_so, x_so, v_more, x_more, rfl, P0, f_sum_told, f_so, f_more, hk⟩ := h
      have nd := sc_sum_at.nd
      have hu64 := hr.units
      have hu128 := hu128_of hr
      have O := P0.start
      refine ⟨_, (pss_cons (ps_set (i := 5) nd rfl (Or.inl rfl) (pe_ix (ixTupK (K := K) rfl) (pv 0) pe_int (fun _ _ => rfl)))
  (pss_cons (ps_if (pt_cmpR (op_eqT Str hu64) (pv 5) pe_str (nomark _)) (pss_one (ps_ret (pe_ix (ixTupK (K := K) rfl) (pv 0) pe_int (fun _ _ => rfl)))) pss_nil)
  (pss_cons (ps_if (pt_cmpR (op_eqT Str hu64) (pv 5) pe_str (nomark _)) (pss_one (ps_ret (pv 1))) pss_nil)
  (pss_cons (ps_if (pt_cmpR (op_eqT Str hu64) (pv 5) pe_str (nomark _)) (pss_one (ps_ret (pv 2))) pss_nil)
  (pss_cons (ps_if (pt_cmpR (op_eqT Str hu64) (pv 5) pe_str (nomark _)) (pss_one (ps_ret (pe_ix (ixListK (K := K) rfl) (pv 3) (pe_ix (ixTupK (K := K) rfl) (pv 0) pe_int (fun _ _ => rfl)) (fun _ _ => rfl)))) pss_nil)
  (pss_cons (ps_if (pt_cmpR (op_eqT Str hu64) (pv 5) pe_str (nomark _)) (pss_one (ps_ret (pe_ix (ixListK (K := K) rfl) (pv 4) (pe_ix (ixTupK (K := K) rfl) (pv 0) pe_int (fun _ _ => rfl)) (fun _ _ => rfl)))) pss_nil)
  (pss_cons (ps_asg (pe_lc (own := [("part", 8)]) (g := gName 8) (tt := _) rfl nd (piTupK (K := K) rfl (pe_slice (slTupK (K := K) rfl) (pv 0) (po_some pe_int) po_none)) (blkOk_by (own := [("part", 8)]) (N := ["sum_told", "own", "tie", "so", "more", "word", "one", "other", "part"]) (sc := defScope s_sum_at) (by decide +kernel)) (fun _ _ _ _ _ => (pg_name (i := 8) nd rfl (Or.inl rfl))) (fun _ _ _ _ _ => pts_nil) (fun _ _ _ _ _ => (pe_call G_sum_at (hr.mono (by omega)) rfl M_sum_at K_sum_at B_sum_at .nil passL (pa_cons (pv 8) (pa_cons (pv 1) (pa_cons (pv 2) (pa_cons (pv 3) (pa_cons (pv 4) pa_nil)))))))) (pgLstK (K := K) rfl rfl (pgs_cons (pg_name (i := 6) nd rfl (Or.inl rfl)) (pgs_cons (pg_name (i := 7) nd rfl (Or.inl rfl)) pgs_nil))))
  (pss_cons (ps_if (pt_cmpR (op_eqT Str hu64) (pv 5) pe_str (nomark _)) (pss_one (ps_ret (pe_op op_add (pv 6) (pv 7)))) pss_nil)
  (pss_cons (ps_if (pt_cmpR (op_eqT Str hu64) (pv 5) pe_str (nomark _)) (pss_one (ps_ret (pe_op op_sub (pv 6) (pv 7)))) pss_nil)
  (pss_cons (ps_if (pt_cmpR (op_eqT Str hu64) (pv 5) pe_str (nomark _)) (pss_one (ps_ret (pe_op op_mulW (pv 6) (pv 7)))) pss_nil)
  (pss_cons (ps_if (pt_cmpR (op_eqT Str hu64) (pv 5) pe_str (nomark _)) (pss_one (ps_ret (pe_callB (call_max2 rfl) (by rfl) nb.b_max (by decide +kernel) (pa_cons (pv 6) (pa_cons (pv 7) pa_nil))))) pss_nil)
  (pss_one (ps_ret (pe_callB (call_min2 rfl) (by rfl) nb.b_min (by decide +kernel) (pa_cons (pv 6) (pa_cons (pv 7) pa_nil)))))))))))))))), ?_⟩
      obtain ⟨p1, w2, e3, h4⟩ := R.sm_ f_sum_told
      cases e3
      refine ⟨_, rfl, _, _, _, _, rfl, rfl, (SqTF O.s h4), (atI0 _ _), _, rfl, _, _, R.str, R.str, _, rfl, ?_⟩
      refine iteD (fun q5 => ?_) (fun q5 => ?_)
      · have hk := wp_if hk q5
        obtain ⟨y6, e7, hk⟩ := wp_opt hk
        obtain ⟨p8, w9, e10, h11⟩ := R.sm_int f_sum_told e7
        cases e10
        refine ⟨_, rfl, _, _, _, _, rfl, rfl, (SqTF O.s h11), rfl, ?_⟩
        exact hk _ _  O.g 
      · have hk := wp_el hk q5
        refine ⟨_, rfl, _, _, R.str, R.str, _, rfl, ?_⟩
        refine iteD (fun q12 => ?_) (fun q12 => ?_)
        · have hk := wp_if hk q12
          refine ⟨_, rfl, ?_⟩
          exact hk _ _  O.g 
        · have hk := wp_el hk q12
          refine ⟨_, rfl, _, _, R.str, R.str, _, rfl, ?_⟩
          refine iteD (fun q13 => ?_) (fun q13 => ?_)
          · have hk := wp_if hk q13
            refine ⟨_, rfl, ?_⟩
            exact hk _ _  O.g 
          · have hk := wp_el hk q13
            refine ⟨_, rfl, _, _, R.str, R.str, _, rfl, ?_⟩
            refine iteD (fun q14 => ?_) (fun q14 => ?_)
            · have hk := wp_if hk q14
              obtain ⟨y15, e16, hk⟩ := wp_opt hk
              obtain ⟨p17, w18, e19, h20⟩ := R.sm_int f_sum_told e16
              cases e19
              obtain ⟨p21, w22, e23, h24, hl25⟩ := R.lst_ f_so
              cases e23
              obtain ⟨y26, e27, hk⟩ := wp_opt hk
              obtain ⟨w28, e29, r30⟩ := hl25.atI e27
              obtain rfl := R.int_ r30
              refine ⟨_, rfl, _, rfl, _, _, _, _, rfl, rfl, (SqTF O.s h20), rfl, _, _, _, _, rfl, rfl, (SqLF O.s h24), e29, ?_⟩
              exact hk _ _  O.g 
            · have hk := wp_el hk q14
              refine ⟨_, rfl, _, _, R.str, R.str, _, rfl, ?_⟩
              refine iteD (fun q31 => ?_) (fun q31 => ?_)
              · have hk := wp_if hk q31
                obtain ⟨y32, e33, hk⟩ := wp_opt hk
                obtain ⟨p34, w35, e36, h37⟩ := R.sm_int f_sum_told e33
                cases e36
                obtain ⟨p38, w39, e40, h41, hl42⟩ := R.lst_ f_more
                cases e40
                obtain ⟨y43, e44, hk⟩ := wp_opt hk
                obtain ⟨w45, e46, r47⟩ := hl42.atI e44
                obtain rfl := R.int_ r47
                refine ⟨_, rfl, _, rfl, _, _, _, _, rfl, rfl, (SqTF O.s h37), rfl, _, _, _, _, rfl, rfl, (SqLF O.s h41), e46, ?_⟩
                exact hk _ _  O.g 
              · have hk := wp_el hk q31
                obtain ⟨y48, e49, hk⟩ := wp_opt hk
                obtain ⟨p50, w51, v52, v53, e54, h55, r56, r57⟩ := R.sm_two f_sum_told e49
                cases e54
                refine ⟨_, rfl, _, rfl, _, _, rfl, (SqTF O.s h55), (sl3 _ _ _), fun p58 hp59 => ?_⟩
                obtain ⟨F60, O61, S62, h63⟩ := O.putE hp59 (.tup [v52, v53])
                have f_sum_told := f_sum_told.mono S62
                have f_so := f_so.mono S62
                have f_more := f_more.mono S62
                have h4 := S62 _ _ h4
                have h55 := S62 _ _ h55
                have r56 := r56.mono S62
                have r57 := r57.mono S62
                have hl64 : RL (a := Sm) F60 [v52, v53] [y48.1, y48.2] := RL.cons r56 (RL.cons r57 RL.nil)
                obtain ⟨c70, L66, hL67, hLs68, hLd69⟩ := compS_L hk
                refine ⟨_, rfl, ⟨_, (SqTF O61.s h63)⟩, fun p71 hp72 => ?_⟩
                have z94 := O61.was hp72
                refine lc_tup (K := K) (xs := [v52, v53]) (fun i H => ∃ (F_ : Hp) (st : Unit) (acc : List Int) (wa : List V), Same F60 F_ ∧ Ow _ F_ [(p71, .lst wa)] H ∧ RL F_ wa acc ∧ wa.length ≤ i ∧ L66 (List.drop i ([y48.1, y48.2])) acc st) ⟨F60, (), [], [], Same.refl _, O61.new hp72, RL.nil, Nat.zero_le _, hL67⟩ (fun i_ H_ _ hp_ => ?_) ?_ ?_
                · obtain ⟨_, _, _, _, hS_, hO_, _⟩ := hp_
                  exact SqTF hO_.s (hS_ _ _ h63)
                · rintro i73 x74 H75 hi76 ⟨F81, st82, acc78, wa79, S83, O85, hl84, la80, hL67⟩
                  have f_sum_told := f_sum_told.mono S83
                  have f_so := f_so.mono S83
                  have f_more := f_more.mono S83
                  have h4 := S83 _ _ h4
                  have h55 := S83 _ _ h55
                  have r56 := r56.mono S83
                  have r57 := r57.mono S83
                  have h63 := S83 _ _ h63
                  have hl64 := hl64.mono S83
                  obtain ⟨y65, e86, r87⟩ := RL.got hl64 hi76
                  rw [drop_at e86] at hL67
                  have hk := hLs68 _ _ _ _ hL67
                  refine ⟨rfl, ?_⟩
                  refine ⟨_, rfl, _, rfl, _, rfl, _, rfl, _, rfl, _, _, _, _, _, _, _, _, _, rfl, O85.pre0, r87, f_so, f_more, wp_call hk (fun r88 er89 hk F90 H91 g92 => ?_) (fun n hn => hn.elim)⟩
                  have O93 := O85.call0 g92
                  have S_ := g92.f
                  have f_sum_told := f_sum_told.mono S_
                  have f_so := f_so.mono S_
                  have f_more := f_more.mono S_
                  have h4 := S_ _ _ h4
                  have h55 := S_ _ _ h55
                  have r56 := r56.mono S_
                  have r57 := r57.mono S_
                  have h63 := S_ _ _ h63
                  have hl64 := hl64.mono S_
                  have S83 := S83.trans S_
                  have hl84 := hl84.mono S_
                  have r87 := r87.mono S_
                  refine ⟨_, (O93.at 0 rfl), (comp_len la80 hi76 hl64.len c70), ?_⟩
                  exact ⟨F90, (), acc78 ++ [r88], wa79 ++ [V.int r88], S83, O93.set 0 (.lst (wa79 ++ [V.int r88])) rfl, RL.snoc hl84 R.int, by rw [List.length_append]; exact Nat.succ_le_succ la80, hk⟩
                rintro H95 ⟨F96, st97, acc98, wa99, S100, O101, hl102, la103, hL104⟩
                rw [drop_end hl64.len] at hL104
                have hk := hLd69 _ _ hL104
                have f_sum_told := f_sum_told.mono S100
                have f_so := f_so.mono S100
                have f_more := f_more.mono S100
                have h4 := S100 _ _ h4
                have h55 := S100 _ _ h55
                have r56 := r56.mono S100
                have r57 := r57.mono S100
                have h63 := S100 _ _ h63
                have hl64 := hl64.mono S100
                obtain ⟨F106, O107, S108, h109⟩ := O101.frzE 0 rfl z94
                have f_sum_told := f_sum_told.mono S108
                have f_so := f_so.mono S108
                have f_more := f_more.mono S108
                have h4 := S108 _ _ h4
                have h55 := S108 _ _ h55
                have r56 := r56.mono S108
                have r57 := r57.mono S108
                have h63 := S108 _ _ h63
                have hl64 := hl64.mono S108
                have hl102 := hl102.mono S108
                have h110 := R.lst (a := Int) h109 hl102
                obtain ⟨p111, w112, e113, h114, hl115⟩ := R.lst_ h110
                cases e113
                obtain ⟨x116, y117, e118, hk⟩ := wp_two2 hk
                have hl119 : RL (a := Int) F106 w112 [x116, y117] := by rw [← e118]; exact hl115
                obtain ⟨w120, w121, e122, r123, q124⟩ := RL.cons_ hl119
                obtain ⟨w125, w126, e127, r128, q129⟩ := RL.cons_ q124
                rw [e127, RL.nil_ q129] at e122
                obtain rfl := R.int_ r123
                obtain rfl := R.int_ r128
                refine ⟨_, _, rfl, (SqLF O107.s h114), (by rw [e122]; rfl), ?_⟩
                rw [e122]
                refine ⟨_, _, rfl, _, _, rfl, rfl, _, rfl, _, _, R.str, R.str, _, rfl, ?_⟩
                refine iteD (fun q131 => ?_) (fun q131 => ?_)
                · have hk := wp_if hk q131
                  refine ⟨_, rfl, _, rfl, _, _, rfl, rfl, ?_⟩
                  exact hk _ _  O107.g 
                · have hk := wp_el hk q131
                  refine ⟨_, rfl, _, _, R.str, R.str, _, rfl, ?_⟩
                  refine iteD (fun q132 => ?_) (fun q132 => ?_)
                  · have hk := wp_if hk q132
                    refine ⟨_, rfl, _, rfl, _, _, rfl, rfl, ?_⟩
                    exact hk _ _  O107.g 
                  · have hk := wp_el hk q132
                    refine ⟨_, rfl, _, _, R.str, R.str, _, rfl, ?_⟩
                    refine iteD (fun q133 => ?_) (fun q133 => ?_)
                    · have hk := wp_if hk q133
                      obtain ⟨c134, hk⟩ := wp_chk hk
                      refine ⟨_, rfl, _, rfl, _, _, rfl, rfl, c134, ?_⟩
                      exact hk _ _  O107.g 
                    · have hk := wp_el hk q133
                      refine ⟨_, rfl, _, _, R.str, R.str, _, rfl, ?_⟩
                      refine iteD (fun q135 => ?_) (fun q135 => ?_)
                      · have hk := wp_if hk q135
                        refine ⟨_, rfl, _, rfl, _, _, rfl, ?_⟩
                        exact hk _ _  O107.g 
                      · have hk := wp_el hk q135
                        refine ⟨_, rfl, _, rfl, _, _, rfl, ?_⟩
                        exact hk _ _  O107.g 
abbrev s_begun : Stmt := top 9
theorem sc_begun : FnScope ["rule", "own", "one"] ["rule", "own"] (defScope s_begun) := ⟨rfl, rfl, rfl, by decide +kernel, rfl, by decide +kernel, by decide +kernel⟩
def m_begun (x_rule : (T4 (List Sm) (List Sm) (List Sm) Sm)) (x_own : Int) : M ((List Int)) :=
compS (fun (y18 : Sm) (st35 : Unit) =>
m_sum_at 12 y18 x_own (0 : Int) ([] : List Int) ([] : List Int) >>= fun r57 =>
.ok (some r57, ())) x_rule.a () >>= fun q74 =>
.ok q74.1
def sp_begun (mg : Str → Option Value) : Sp := fun vs H Q E => ∃ (F : Hp) (v_rule : V) (x_rule : (T4 (List Sm) (List Sm) (List Sm) Sm)) (x_own : Int), vs = [v_rule, V.int x_own] ∧ Pre F [] H ∧ R (a := (T4 (List Sm) (List Sm) (List Sm) Sm)) F v_rule x_rule ∧
  wp (m_begun x_rule x_own) (fun r => ∀ (F' H' : Hp), Gr [] F H F' H' → ∀ (p : Addr) (w : (List V)), H p = none → F' p = none → H' p = some (.lst w) → RL (a := Int) F' w r → Q (.ref p) H')
  (fun n => ∀ (C : Addr) (H' : Hp), mg (Str.ofString n) = some (.ref C) → Kp [] H H' → E (.ref C) none H')
set_option maxHeartbeats 2000000 in
theorem ok_begun (nb : Nb mg) (C_sum_at : Ca P w K mg base "sum_at" 13 ["sum_told", "own", "tie", "so", "more"] (sp_sum_at 12 mg)) (D : Df K mg "begun" "begun" s_begun ["rule", "own"]) : Ca P w K mg base "begun" 14 ["rule", "own"] (sp_begun mg) := by
  obtain ⟨fa_sum_at, fd_sum_at, G_sum_at, M_sum_at, K_sum_at, B_sum_at⟩ := C_sum_at.ex
  refine Ca.mk' D sc_begun (fun vs H Q E h => ?_) (fun q_ f_ cdv A outer s H vs Q E hr h => ?_)
  · obtain ⟨F, _, _, _, rfl, _⟩ := h
    rfl
  · obtain ⟨F, v_rule, x_rule, x_own, rfl, P0, f_rule, hk⟩ := h
    have nd := sc_begun.nd
    have hu64 := hr.units
    have hu128 := hu128_of hr
    have O := P0.start
    refine ⟨_, (pss_one (ps_ret (pe_lc (own := [("one", 2)]) (g := gName 2) (tt := _) rfl nd (piListK (K := K) rfl (pe_ix (ixTupK (K := K) rfl) (pv 0) pe_int (fun _ _ => rfl))) (blkOk_by (own := [("one", 2)]) (N := ["rule", "own", "one"]) (sc := defScope s_begun) (by decide +kernel)) (fun _ _ _ _ _ => (pg_name (i := 2) nd rfl (Or.inl rfl))) (fun _ _ _ _ _ => pts_nil) (fun _ _ _ _ _ => (pe_call G_sum_at (hr.mono (by decide)) rfl M_sum_at K_sum_at B_sum_at .nil passL (pa_cons (pv 2) (pa_cons (pv 1) (pa_cons pe_int (pa_cons (pe_lst pa_nil) (pa_cons (pe_lst pa_nil) pa_nil)))))))))), ?_⟩
    obtain ⟨p2, v5, v6, v7, v8, e3, h4, r9, r10, r11, r12⟩ := R.t4_ f_rule
    cases e3
    obtain ⟨p13, w14, e15, h16, hl17⟩ := R.lst_ r9
    cases e15
    obtain ⟨c23, L19, hL20, hLs21, hLd22⟩ := compS_L hk
    refine ⟨_, rfl, _, _, _, _, rfl, rfl, (SqTF O.s h4), rfl, _, rfl, ⟨_, (SqLF O.s h16)⟩, fun p24 hp25 => ?_⟩
    have z63 := O.was hp25
    refine lc_list (K := K) (xs := w14) (fun i H => ∃ (F_ : Hp) (st : Unit) (acc : List Int) (wa : List V), Same F F_ ∧ Ow _ F_ [(p24, .lst wa)] H ∧ RL F_ wa acc ∧ wa.length ≤ i ∧ L19 (List.drop i x_rule.a) acc st) ⟨F, (), [], [], Same.refl _, O.new hp25, RL.nil, Nat.zero_le _, hL20⟩ (fun i_ H_ _ hp_ => ?_) ?_ ?_
    · obtain ⟨_, _, _, _, hS_, hO_, _⟩ := hp_
      exact SqLF hO_.s (hS_ _ _ h16)
    · rintro i26 x27 H28 hi29 ⟨F34, st35, acc31, wa32, S36, O38, hl37, la33, hL20⟩
      have f_rule := f_rule.mono S36
      have h4 := S36 _ _ h4
      have r9 := r9.mono S36
      have r10 := r10.mono S36
      have r11 := r11.mono S36
      have r12 := r12.mono S36
      have h16 := S36 _ _ h16
      have hl17 := hl17.mono S36
      obtain ⟨y18, e39, r40⟩ := RL.got hl17 hi29
      rw [drop_at e39] at hL20
      have hk := hLs21 _ _ _ _ hL20
      refine ⟨rfl, ?_⟩
      refine ⟨_, rfl, _, rfl, (by show 0 ≤ sizeLine; decide), fun p41 hp42 => ?_⟩
      have hl48 : RL (a := Int) F34 ([]) ([] : List Int) := RL.nil
      obtain ⟨F43, O44, S45, h46⟩ := O38.putE hp42 (.lst ([]))
      have f_rule := f_rule.mono S45
      have h4 := S45 _ _ h4
      have r9 := r9.mono S45
      have r10 := r10.mono S45
      have r11 := r11.mono S45
      have r12 := r12.mono S45
      have h16 := S45 _ _ h16
      have hl17 := hl17.mono S45
      have S36 := S36.trans S45
      have hl37 := hl37.mono S45
      have r40 := r40.mono S45
      have hl48 := hl48.mono S45
      have h47 := R.lst (a := Int) h46 hl48
      refine ⟨(by show 0 ≤ sizeLine; decide), fun p49 hp50 => ?_⟩
      have hl56 : RL (a := Int) F43 ([]) ([] : List Int) := RL.nil
      obtain ⟨F51, O52, S53, h54⟩ := O44.putE hp50 (.lst ([]))
      have f_rule := f_rule.mono S53
      have h4 := S53 _ _ h4
      have r9 := r9.mono S53
      have r10 := r10.mono S53
      have r11 := r11.mono S53
      have r12 := r12.mono S53
      have h16 := S53 _ _ h16
      have hl17 := hl17.mono S53
      have S36 := S36.trans S53
      have hl37 := hl37.mono S53
      have r40 := r40.mono S53
      have h47 := h47.mono S53
      have hl56 := hl56.mono S53
      have h55 := R.lst (a := Int) h54 hl56
      refine ⟨_, _, _, _, _, _, _, _, _, rfl, O52.pre0, r40, h47, h55, wp_call hk (fun r57 er58 hk F59 H60 g61 => ?_) (fun n hn => hn.elim)⟩
      have O62 := O52.call0 g61
      have S_ := g61.f
      have f_rule := f_rule.mono S_
      have h4 := S_ _ _ h4
      have r9 := r9.mono S_
      have r10 := r10.mono S_
      have r11 := r11.mono S_
      have r12 := r12.mono S_
      have h16 := S_ _ _ h16
      have hl17 := hl17.mono S_
      have S36 := S36.trans S_
      have hl37 := hl37.mono S_
      have r40 := r40.mono S_
      have h47 := h47.mono S_
      have h55 := h55.mono S_
      refine ⟨_, (O62.at 0 rfl), (comp_len la33 hi29 hl17.len c23), ?_⟩
      exact ⟨F59, (), acc31 ++ [r57], wa32 ++ [V.int r57], S36, O62.set 0 (.lst (wa32 ++ [V.int r57])) rfl, RL.snoc hl37 R.int, by rw [List.length_append]; exact Nat.succ_le_succ la33, hk⟩
    rintro H64 ⟨F65, st66, acc67, wa68, S69, O70, hl71, la72, hL73⟩
    rw [drop_end hl17.len] at hL73
    have hk := hLd22 _ _ hL73
    have f_rule := f_rule.mono S69
    have h4 := S69 _ _ h4
    have r9 := r9.mono S69
    have r10 := r10.mono S69
    have r11 := r11.mono S69
    have r12 := r12.mono S69
    have h16 := S69 _ _ h16
    have hl17 := hl17.mono S69
    exact hk _ _  O70.g  _ _ z63 (O70.cf _ (List.mem_of_getElem? (i := 0) rfl)) (O70.at 0 rfl) hl71
abbrev s_joined : Stmt := top 10
theorem sc_joined : FnScope ["rule", "so", "more", "own", "one"] ["rule", "so", "more", "own"] (defScope s_joined) := ⟨rfl, rfl, rfl, by decide +kernel, rfl, by decide +kernel, by decide +kernel⟩
def m_joined (x_rule : (T4 (List Sm) (List Sm) (List Sm) Sm)) (x_so : (List Int)) (x_more : (List Int)) (x_own : Int) : M ((List Int)) :=
compS (fun (y18 : Sm) (st35 : Unit) =>
m_sum_at 12 y18 x_own (0 : Int) x_so x_more >>= fun r41 =>
.ok (some r41, ())) x_rule.c () >>= fun q58 =>
.ok q58.1
def sp_joined (mg : Str → Option Value) : Sp := fun vs H Q E => ∃ (F : Hp) (v_rule : V) (x_rule : (T4 (List Sm) (List Sm) (List Sm) Sm)) (v_so : V) (x_so : (List Int)) (v_more : V) (x_more : (List Int)) (x_own : Int), vs = [v_rule, v_so, v_more, V.int x_own] ∧ Pre F [] H ∧ R (a := (T4 (List Sm) (List Sm) (List Sm) Sm)) F v_rule x_rule ∧ R (a := (List Int)) F v_so x_so ∧ R (a := (List Int)) F v_more x_more ∧
  wp (m_joined x_rule x_so x_more x_own) (fun r => ∀ (F' H' : Hp), Gr [] F H F' H' → ∀ (p : Addr) (w : (List V)), H p = none → F' p = none → H' p = some (.lst w) → RL (a := Int) F' w r → Q (.ref p) H')
  (fun n => ∀ (C : Addr) (H' : Hp), mg (Str.ofString n) = some (.ref C) → Kp [] H H' → E (.ref C) none H')
set_option maxHeartbeats 2000000 in
theorem ok_joined (nb : Nb mg) (C_sum_at : Ca P w K mg base "sum_at" 13 ["sum_told", "own", "tie", "so", "more"] (sp_sum_at 12 mg)) (D : Df K mg "joined" "joined" s_joined ["rule", "so", "more", "own"]) : Ca P w K mg base "joined" 14 ["rule", "so", "more", "own"] (sp_joined mg) := by
  obtain ⟨fa_sum_at, fd_sum_at, G_sum_at, M_sum_at, K_sum_at, B_sum_at⟩ := C_sum_at.ex
  refine Ca.mk' D sc_joined (fun vs H Q E h => ?_) (fun q_ f_ cdv A outer s H vs Q E hr h => ?_)
  · obtain ⟨F, _, _, _, _, _, _, _, rfl, _⟩ := h
    rfl
  · obtain ⟨F, v_rule, x_rule, v_so, x_so, v_more, x_more, x_own, rfl, P0, f_rule, f_so, f_more, hk⟩ := h
    have nd := sc_joined.nd
    have hu64 := hr.units
    have hu128 := hu128_of hr
    have O := P0.start
    refine ⟨_, (pss_one (ps_ret (pe_lc (own := [("one", 4)]) (g := gName 4) (tt := _) rfl nd (piListK (K := K) rfl (pe_ix (ixTupK (K := K) rfl) (pv 0) pe_int (fun _ _ => rfl))) (blkOk_by (own := [("one", 4)]) (N := ["rule", "so", "more", "own", "one"]) (sc := defScope s_joined) (by decide +kernel)) (fun _ _ _ _ _ => (pg_name (i := 4) nd rfl (Or.inl rfl))) (fun _ _ _ _ _ => pts_nil) (fun _ _ _ _ _ => (pe_call G_sum_at (hr.mono (by decide)) rfl M_sum_at K_sum_at B_sum_at .nil passL (pa_cons (pv 4) (pa_cons (pv 3) (pa_cons pe_int (pa_cons (pv 1) (pa_cons (pv 2) pa_nil)))))))))), ?_⟩
    obtain ⟨p2, v5, v6, v7, v8, e3, h4, r9, r10, r11, r12⟩ := R.t4_ f_rule
    cases e3
    obtain ⟨p13, w14, e15, h16, hl17⟩ := R.lst_ r11
    cases e15
    obtain ⟨c23, L19, hL20, hLs21, hLd22⟩ := compS_L hk
    refine ⟨_, rfl, _, _, _, _, rfl, rfl, (SqTF O.s h4), rfl, _, rfl, ⟨_, (SqLF O.s h16)⟩, fun p24 hp25 => ?_⟩
    have z47 := O.was hp25
    refine lc_list (K := K) (xs := w14) (fun i H => ∃ (F_ : Hp) (st : Unit) (acc : List Int) (wa : List V), Same F F_ ∧ Ow _ F_ [(p24, .lst wa)] H ∧ RL F_ wa acc ∧ wa.length ≤ i ∧ L19 (List.drop i x_rule.c) acc st) ⟨F, (), [], [], Same.refl _, O.new hp25, RL.nil, Nat.zero_le _, hL20⟩ (fun i_ H_ _ hp_ => ?_) ?_ ?_
    · obtain ⟨_, _, _, _, hS_, hO_, _⟩ := hp_
      exact SqLF hO_.s (hS_ _ _ h16)
    · rintro i26 x27 H28 hi29 ⟨F34, st35, acc31, wa32, S36, O38, hl37, la33, hL20⟩
      have f_rule := f_rule.mono S36
      have f_so := f_so.mono S36
      have f_more := f_more.mono S36
      have h4 := S36 _ _ h4
      have r9 := r9.mono S36
      have r10 := r10.mono S36
      have r11 := r11.mono S36
      have r12 := r12.mono S36
      have h16 := S36 _ _ h16
      have hl17 := hl17.mono S36
      obtain ⟨y18, e39, r40⟩ := RL.got hl17 hi29
      rw [drop_at e39] at hL20
      have hk := hLs21 _ _ _ _ hL20
      refine ⟨rfl, ?_⟩
      refine ⟨_, rfl, _, rfl, _, rfl, _, rfl, _, _, _, _, _, _, _, _, _, rfl, O38.pre0, r40, f_so, f_more, wp_call hk (fun r41 er42 hk F43 H44 g45 => ?_) (fun n hn => hn.elim)⟩
      have O46 := O38.call0 g45
      have S_ := g45.f
      have f_rule := f_rule.mono S_
      have f_so := f_so.mono S_
      have f_more := f_more.mono S_
      have h4 := S_ _ _ h4
      have r9 := r9.mono S_
      have r10 := r10.mono S_
      have r11 := r11.mono S_
      have r12 := r12.mono S_
      have h16 := S_ _ _ h16
      have hl17 := hl17.mono S_
      have S36 := S36.trans S_
      have hl37 := hl37.mono S_
      have r40 := r40.mono S_
      refine ⟨_, (O46.at 0 rfl), (comp_len la33 hi29 hl17.len c23), ?_⟩
      exact ⟨F43, (), acc31 ++ [r41], wa32 ++ [V.int r41], S36, O46.set 0 (.lst (wa32 ++ [V.int r41])) rfl, RL.snoc hl37 R.int, by rw [List.length_append]; exact Nat.succ_le_succ la33, hk⟩
    rintro H48 ⟨F49, st50, acc51, wa52, S53, O54, hl55, la56, hL57⟩
    rw [drop_end hl17.len] at hL57
    have hk := hLd22 _ _ hL57
    have f_rule := f_rule.mono S53
    have f_so := f_so.mono S53
    have f_more := f_more.mono S53
    have h4 := S53 _ _ h4
    have r9 := r9.mono S53
    have r10 := r10.mono S53
    have r11 := r11.mono S53
    have r12 := r12.mono S53
    have h16 := S53 _ _ h16
    have hl17 := hl17.mono S53
    exact hk _ _  O54.g  _ _ z47 (O54.cf _ (List.mem_of_getElem? (i := 0) rfl)) (O54.at 0 rfl) hl55
abbrev s_over_tie : Stmt := top 11
theorem sc_over_tie : FnScope ["rule", "more", "own", "tie", "one"] ["rule", "more", "own", "tie"] (defScope s_over_tie) := ⟨rfl, rfl, rfl, by decide +kernel, rfl, by decide +kernel, by decide +kernel⟩
def m_over_tie (x_rule : (T4 (List Sm) (List Sm) (List Sm) Sm)) (x_more : (List Int)) (x_own : Int) (x_tie : Int) : M ((List Int)) :=
compS (fun (y18 : Sm) (st35 : Unit) =>
m_sum_at 12 y18 x_own x_tie ([] : List Int) x_more >>= fun r49 =>
.ok (some r49, ())) x_rule.b () >>= fun q66 =>
.ok q66.1
def sp_over_tie (mg : Str → Option Value) : Sp := fun vs H Q E => ∃ (F : Hp) (v_rule : V) (x_rule : (T4 (List Sm) (List Sm) (List Sm) Sm)) (v_more : V) (x_more : (List Int)) (x_own : Int) (x_tie : Int), vs = [v_rule, v_more, V.int x_own, V.int x_tie] ∧ Pre F [] H ∧ R (a := (T4 (List Sm) (List Sm) (List Sm) Sm)) F v_rule x_rule ∧ R (a := (List Int)) F v_more x_more ∧
  wp (m_over_tie x_rule x_more x_own x_tie) (fun r => ∀ (F' H' : Hp), Gr [] F H F' H' → ∀ (p : Addr) (w : (List V)), H p = none → F' p = none → H' p = some (.lst w) → RL (a := Int) F' w r → Q (.ref p) H')
  (fun n => ∀ (C : Addr) (H' : Hp), mg (Str.ofString n) = some (.ref C) → Kp [] H H' → E (.ref C) none H')
set_option maxHeartbeats 2000000 in
theorem ok_over_tie (nb : Nb mg) (C_sum_at : Ca P w K mg base "sum_at" 13 ["sum_told", "own", "tie", "so", "more"] (sp_sum_at 12 mg)) (D : Df K mg "over_tie" "over_tie" s_over_tie ["rule", "more", "own", "tie"]) : Ca P w K mg base "over_tie" 14 ["rule", "more", "own", "tie"] (sp_over_tie mg) := by
  obtain ⟨fa_sum_at, fd_sum_at, G_sum_at, M_sum_at, K_sum_at, B_sum_at⟩ := C_sum_at.ex
  refine Ca.mk' D sc_over_tie (fun vs H Q E h => ?_) (fun q_ f_ cdv A outer s H vs Q E hr h => ?_)
  · obtain ⟨F, _, _, _, _, _, _, rfl, _⟩ := h
    rfl
  · obtain ⟨F, v_rule, x_rule, v_more, x_more, x_own, x_tie, rfl, P0, f_rule, f_more, hk⟩ := h
    have nd := sc_over_tie.nd
    have hu64 := hr.units
    have hu128 := hu128_of hr
    have O := P0.start
    refine ⟨_, (pss_one (ps_ret (pe_lc (own := [("one", 4)]) (g := gName 4) (tt := _) rfl nd (piListK (K := K) rfl (pe_ix (ixTupK (K := K) rfl) (pv 0) pe_int (fun _ _ => rfl))) (blkOk_by (own := [("one", 4)]) (N := ["rule", "more", "own", "tie", "one"]) (sc := defScope s_over_tie) (by decide +kernel)) (fun _ _ _ _ _ => (pg_name (i := 4) nd rfl (Or.inl rfl))) (fun _ _ _ _ _ => pts_nil) (fun _ _ _ _ _ => (pe_call G_sum_at (hr.mono (by decide)) rfl M_sum_at K_sum_at B_sum_at .nil passL (pa_cons (pv 4) (pa_cons (pv 2) (pa_cons (pv 3) (pa_cons (pe_lst pa_nil) (pa_cons (pv 1) pa_nil)))))))))), ?_⟩
    obtain ⟨p2, v5, v6, v7, v8, e3, h4, r9, r10, r11, r12⟩ := R.t4_ f_rule
    cases e3
    obtain ⟨p13, w14, e15, h16, hl17⟩ := R.lst_ r10
    cases e15
    obtain ⟨c23, L19, hL20, hLs21, hLd22⟩ := compS_L hk
    refine ⟨_, rfl, _, _, _, _, rfl, rfl, (SqTF O.s h4), rfl, _, rfl, ⟨_, (SqLF O.s h16)⟩, fun p24 hp25 => ?_⟩
    have z55 := O.was hp25
    refine lc_list (K := K) (xs := w14) (fun i H => ∃ (F_ : Hp) (st : Unit) (acc : List Int) (wa : List V), Same F F_ ∧ Ow _ F_ [(p24, .lst wa)] H ∧ RL F_ wa acc ∧ wa.length ≤ i ∧ L19 (List.drop i x_rule.b) acc st) ⟨F, (), [], [], Same.refl _, O.new hp25, RL.nil, Nat.zero_le _, hL20⟩ (fun i_ H_ _ hp_ => ?_) ?_ ?_
    · obtain ⟨_, _, _, _, hS_, hO_, _⟩ := hp_
      exact SqLF hO_.s (hS_ _ _ h16)
    · rintro i26 x27 H28 hi29 ⟨F34, st35, acc31, wa32, S36, O38, hl37, la33, hL20⟩
      have f_rule := f_rule.mono S36
      have f_more := f_more.mono S36
      have h4 := S36 _ _ h4
      have r9 := r9.mono S36
      have r10 := r10.mono S36
      have r11 := r11.mono S36
      have r12 := r12.mono S36
      have h16 := S36 _ _ h16
      have hl17 := hl17.mono S36
      obtain ⟨y18, e39, r40⟩ := RL.got hl17 hi29
      rw [drop_at e39] at hL20
      have hk := hLs21 _ _ _ _ hL20
      refine ⟨rfl, ?_⟩
      refine ⟨_, rfl, _, rfl, _, rfl, (by show 0 ≤ sizeLine; decide), fun p41 hp42 => ?_⟩
      have hl48 : RL (a := Int) F34 ([]) ([] : List Int) := RL.nil
      obtain ⟨F43, O44, S45, h46⟩ := O38.putE hp42 (.lst ([]))
      have f_rule := f_rule.mono S45
      have f_more := f_more.mono S45
      have h4 := S45 _ _ h4
      have r9 := r9.mono S45
      have r10 := r10.mono S45
      have r11 := r11.mono S45
      have r12 := r12.mono S45
      have h16 := S45 _ _ h16
      have hl17 := hl17.mono S45
      have S36 := S36.trans S45
      have hl37 := hl37.mono S45
      have r40 := r40.mono S45
      have hl48 := hl48.mono S45
      have h47 := R.lst (a := Int) h46 hl48
      refine ⟨_, rfl, _, _, _, _, _, _, _, _, _, rfl, O44.pre0, r40, h47, f_more, wp_call hk (fun r49 er50 hk F51 H52 g53 => ?_) (fun n hn => hn.elim)⟩
      have O54 := O44.call0 g53
      have S_ := g53.f
      have f_rule := f_rule.mono S_
      have f_more := f_more.mono S_
      have h4 := S_ _ _ h4
      have r9 := r9.mono S_
      have r10 := r10.mono S_
      have r11 := r11.mono S_
      have r12 := r12.mono S_
      have h16 := S_ _ _ h16
      have hl17 := hl17.mono S_
      have S36 := S36.trans S_
      have hl37 := hl37.mono S_
      have r40 := r40.mono S_
      have h47 := h47.mono S_
      refine ⟨_, (O54.at 0 rfl), (comp_len la33 hi29 hl17.len c23), ?_⟩
      exact ⟨F51, (), acc31 ++ [r49], wa32 ++ [V.int r49], S36, O54.set 0 (.lst (wa32 ++ [V.int r49])) rfl, RL.snoc hl37 R.int, by rw [List.length_append]; exact Nat.succ_le_succ la33, hk⟩
    rintro H56 ⟨F57, st58, acc59, wa60, S61, O62, hl63, la64, hL65⟩
    rw [drop_end hl17.len] at hL65
    have hk := hLd22 _ _ hL65
    have f_rule := f_rule.mono S61
    have f_more := f_more.mono S61
    have h4 := S61 _ _ h4
    have r9 := r9.mono S61
    have r10 := r10.mono S61
    have r11 := r11.mono S61
    have r12 := r12.mono S61
    have h16 := S61 _ _ h16
    have hl17 := hl17.mono S61
    exact hk _ _  O62.g  _ _ z55 (O62.cf _ (List.mem_of_getElem? (i := 0) rfl)) (O62.at 0 rfl) hl63
abbrev s_told_by : Stmt := top 12
theorem sc_told_by : FnScope ["rule", "so", "own"] ["rule", "so", "own"] (defScope s_told_by) := ⟨rfl, rfl, rfl, by decide +kernel, rfl, by decide +kernel, by decide +kernel⟩
def m_told_by (x_rule : (T4 (List Sm) (List Sm) (List Sm) Sm)) (x_so : (List Int)) (x_own : Int) : M (Int) :=
m_sum_at 12 x_rule.d x_own (0 : Int) x_so ([] : List Int) >>= fun r20 =>
.ok r20
def sp_told_by (mg : Str → Option Value) : Sp := fun vs H Q E => ∃ (F : Hp) (v_rule : V) (x_rule : (T4 (List Sm) (List Sm) (List Sm) Sm)) (v_so : V) (x_so : (List Int)) (x_own : Int), vs = [v_rule, v_so, V.int x_own] ∧ Pre F [] H ∧ R (a := (T4 (List Sm) (List Sm) (List Sm) Sm)) F v_rule x_rule ∧ R (a := (List Int)) F v_so x_so ∧
  wp (m_told_by x_rule x_so x_own) (fun r => ∀ (F' H' : Hp), Gr [] F H F' H' → Q (V.int r) H')
  (fun n => ∀ (C : Addr) (H' : Hp), mg (Str.ofString n) = some (.ref C) → Kp [] H H' → E (.ref C) none H')
set_option maxHeartbeats 2000000 in
theorem ok_told_by (nb : Nb mg) (C_sum_at : Ca P w K mg base "sum_at" 13 ["sum_told", "own", "tie", "so", "more"] (sp_sum_at 12 mg)) (D : Df K mg "told_by" "told_by" s_told_by ["rule", "so", "own"]) : Ca P w K mg base "told_by" 14 ["rule", "so", "own"] (sp_told_by mg) := by
  obtain ⟨fa_sum_at, fd_sum_at, G_sum_at, M_sum_at, K_sum_at, B_sum_at⟩ := C_sum_at.ex
  refine Ca.mk' D sc_told_by (fun vs H Q E h => ?_) (fun q_ f_ cdv A outer s H vs Q E hr h => ?_)
  · obtain ⟨F, _, _, _, _, _, rfl, _⟩ := h
    rfl
  · obtain ⟨F, v_rule, x_rule, v_so, x_so, x_own, rfl, P0, f_rule, f_so, hk⟩ := h
    have nd := sc_told_by.nd
    have hu64 := hr.units
    have hu128 := hu128_of hr
    have O := P0.start
    refine ⟨_, (pss_one (ps_ret (pe_call G_sum_at (hr.mono (by decide)) rfl M_sum_at K_sum_at B_sum_at .nil (passes_call (takes_of rfl rfl rfl rfl) fun _ _ _ _ h => h) (pa_cons (pe_ix (ixTupK (K := K) rfl) (pv 0) pe_int (fun _ _ => rfl)) (pa_cons (pv 2) (pa_cons pe_int (pa_cons (pv 1) (pa_cons (pe_lst pa_nil) pa_nil)))))))), ?_⟩
    obtain ⟨p1, v4, v5, v6, v7, e2, h3, r8, r9, r10, r11⟩ := R.t4_ f_rule
    cases e2
    refine ⟨_, rfl, _, _, _, _, rfl, rfl, (SqTF O.s h3), rfl, _, rfl, _, rfl, (by show 0 ≤ sizeLine; decide), fun p12 hp13 => ?_⟩
    have hl19 : RL (a := Int) F ([]) ([] : List Int) := RL.nil
    obtain ⟨F14, O15, S16, h17⟩ := O.putE hp13 (.lst ([]))
    have f_rule := f_rule.mono S16
    have f_so := f_so.mono S16
    have h3 := S16 _ _ h3
    have r8 := r8.mono S16
    have r9 := r9.mono S16
    have r10 := r10.mono S16
    have r11 := r11.mono S16
    have hl19 := hl19.mono S16
    have h18 := R.lst (a := Int) h17 hl19
    refine ⟨_, _, _, _, _, _, _, _, _, rfl, O15.pre0, r11, f_so, h18, wp_call hk (fun r20 er21 hk F22 H23 g24 => ?_) (fun n hn C H1 hC kp => hn C H1 hC (O15.kp0 kp))⟩
    have O25 := O15.call0 g24
    have S_ := g24.f
    have f_rule := f_rule.mono S_
    have f_so := f_so.mono S_
    have h3 := S_ _ _ h3
    have r8 := r8.mono S_
    have r9 := r9.mono S_
    have r10 := r10.mono S_
    have r11 := r11.mono S_
    have h18 := h18.mono S_
    exact hk _ _  O25.g 
abbrev s_tied_places : Stmt := top 14
theorem sc_tied_places : FnScope ["many", "ties", "found", "a", "b", "length", "near", "place"] ["many", "ties"] (defScope s_tied_places) := ⟨rfl, rfl, rfl, by decide +kernel, rfl, by decide +kernel, by decide +kernel⟩
def addAt (fs : List (List Int)) (a b : Int) : M (List (List Int)) := match ixN fs.length a with
  | some j => (match fs[j]? with
    | some x => appL x b >>= fun y => .ok (fs.set j y)
    | none => bad)
  | none => bad
def m_tied_places (x_many : Int) (x_ties : List (T3 Int Int Int)) : M (List (List Int)) :=
  chk (okR x_many) >>= fun _ =>
  loopN (fun (t : T3 Int Int Int) (fs : List (List Int)) => addAt fs t.a t.b >>= fun f1 => addAt f1 t.b t.a) (sortT x_ties) (List.replicate x_many.toNat []) >>= fun fs =>
  .ok (fs.map sortT)
theorem wp_addAt {b : Type} {Q : b → Prop} {E : String → Prop} {fs : List (List Int)} {a y : Int} {k : List (List Int) → M b} (h : wp (addAt fs a y >>= k) Q E) :
    ∃ j x, ixN fs.length a = some j ∧ fs[j]? = some x ∧ x.length < sizeLine ∧ wp (k (fs.set j (x ++ [y]))) Q E := by
  unfold addAt at h
  cases e : ixN fs.length a with
  | none => rw [e] at h; exact h.elim
  | some j =>
    rw [e] at h
    have h : wp ((match fs[j]? with
      | some x => appL x y >>= fun y => .ok (fs.set j y)
      | none => bad) >>= k) Q E := h
    cases e2 : fs[j]? with
    | none => rw [e2] at h; exact h.elim
    | some x =>
      rw [e2] at h
      have h : wp ((appL x y >>= fun y => .ok (fs.set j y)) >>= k) Q E := h
      rw [wp_bind] at h
      obtain ⟨c, h⟩ := wp_appL h
      exact ⟨j, x, rfl, e2, c, h⟩
/-- all lists are new -/
def sp_tied_places_own (mg : Str → Option Value) : Sp := fun vs H Q E => ∃ (F : Hp) (x_many : Int) (v_ties : V) (x_ties : List (T3 Int Int Int)), vs = [.int x_many, v_ties] ∧ Pre F [] H ∧ R F v_ties x_ties ∧
  wp (m_tied_places x_many x_ties) (fun r => ∀ (F' H' : Hp) (p : Addr) (ps : List LC), Gr [] F H F' H' → OwnLL H F' H' p ps → ps.map (·.2) = r → Q (.ref p) H')
  (fun n => ∀ (C : Addr) (H' : Hp), mg (Str.ofString n) = some (.ref C) → Kp [] H H' → E (.ref C) none H')
def sp_tied_places (mg : Str → Option Value) : Sp := fun vs H Q E => ∃ (F : Hp) (x_many : Int) (v_ties : V) (x_ties : (List (T3 Int Int Int))), vs = [.int x_many, v_ties] ∧ Pre F [] H ∧ R (a := (List (T3 Int Int Int))) F v_ties x_ties ∧
  wp (m_tied_places x_many x_ties) (fun r => ∀ (F' H' : Hp), Gr [] F H F' H' → ∀ (p : Addr) (w : List V), H p = none → F' p = none → H' p = some (.lst w) → RL (a := (List Int)) F' w r → Q (.ref p) H')
  (fun n => ∀ (C : Addr) (H' : Hp), mg (Str.ofString n) = some (.ref C) → Kp [] H H' → E (.ref C) none H')
theorem lc_set {ps : List LC} {j : Nat} {c : LC} {y : List Int} (h : ps[j]? = some c) : (ps.set j (c.1, y)).map (·.1) = ps.map (·.1) ∧ (ps.set j (c.1, y)).map (·.2) = (ps.map (·.2)).set j y := by
  refine ⟨?_, by rw [List.map_set]⟩
  rw [List.map_set]
  refine List.ext_getElem? fun k => ?_
  by_cases hk : j = k
  · subst hk
    have hl := (List.getElem?_eq_some_iff.mp h).1
    rw [List.getElem?_set_self (by simpa using hl), List.getElem?_map, h]
    rfl
  · rw [List.getElem?_set_ne hk]
/-- one append -/
theorem tp_app {Z : Ent} {F H : Hp} {D : Addr} {o : HO} {rest : List (Addr × HO)} {ps : List LC} (O : Ow Z F ((D, o) :: ps.map lcell) H) {j : Nat} {c : LC} (h : ps[j]? = some c) (y : Int) :
    Ow Z F ((D, o) :: (ps.set j (c.1, c.2 ++ [y])).map lcell) (upd H c.1 (.lst (c.2.map V.int ++ [V.int y]))) ∧ H c.1 = some (.lst (c.2.map V.int)) := by
  have e : ((D, o) :: ps.map lcell)[j + 1]? = some (c.1, .lst (c.2.map V.int)) := by
    rw [List.getElem?_cons_succ, List.getElem?_map, h]
    rfl
  refine ⟨?_, O.at (j + 1) e⟩
  have q := O.set (j + 1) (.lst (c.2.map V.int ++ [V.int y])) e
  have e2 : ((D, o) :: ps.map lcell).set (j + 1) (c.1, .lst (c.2.map V.int ++ [V.int y])) = (D, o) :: (ps.set j (c.1, c.2 ++ [y])).map lcell := by
    rw [List.set_cons_succ, List.map_set]
    unfold lcell
    rw [List.map_append]
    rfl
  rw [e2] at q
  exact q
theorem tp_at {ps : List LC} {j : Nat} {x : List Int} (h : (ps.map (·.2))[j]? = some x) : ∃ c, ps[j]? = some c ∧ c.2 = x := by
  rw [List.getElem?_map] at h
  cases e : ps[j]? with
  | none => rw [e] at h; cases h
  | some c => rw [e] at h; exact ⟨c, rfl, Option.some.inj h⟩
theorem tp_ix {ps : List LC} {a : Int} {j : Nat} {c : LC} (e : ixN (ps.map (·.2)).length a = some j) (h : ps[j]? = some c) : atI (lrefs ps) a = some (.ref c.1) := by
  unfold atI lrefs
  rw [List.length_map] at e ⊢
  rw [e]
  show (lrefs ps)[j]? = _
  rw [List.getElem?_map, h]
  rfl
set_option maxHeartbeats 4000000 in
theorem ok_tied_places_own (nb : Nb mg) (D : Df K mg "tied_places" "tied_places" s_tied_places ["many", "ties"]) : Ca P w K mg base "tied_places" 1 ["many", "ties"] (sp_tied_places_own mg) := by
  refine Ca.mk' D sc_tied_places (fun vs H Q E h => ?_) (fun q_ f_ cdv A outer s H vs Q E hr h => ?_)
  · obtain ⟨F, _, _, _, rfl, _⟩ := h
    rfl
  · obtain ⟨F, x_many, v_ties, x_ties, rfl, P0, f_ties, hk⟩ := h
    have nd := sc_tied_places.nd
    have hu128 := hu128_of hr
    have O := P0.start
    refine ⟨_, pss_cons (ps_setLc (i := 2) (own := [("place", 7)]) (g := _) (tt := _) rfl nd rfl rfl (sw_true rfl rfl rfl (by decide +kernel)) (pi_range1 rfl nb.b_range (pa_cons (pv 0) pa_nil))
        (blkOk_by (own := [("place", 7)]) (N := ["many", "ties", "found", "a", "b", "length", "near", "place"]) (sc := defScope s_tied_places) (by decide +kernel)) (fun _ _ _ _ _ => (pg_name (i := 7) nd rfl (Or.inl rfl))) (fun _ _ _ _ _ => pts_nil) (fun _ _ _ _ _ => pe_lst pa_nil))
      (pss_cons (ps_for (passes_of rfl) rfl (pi_list (pe_callB (cr_sortedT (T3 Int Int Int) hu128) (by rfl) nb.b_sorted (by decide +kernel) (pa_cons (pv 1) pa_nil)))
        (pg_tup rfl (pgs_cons (pg_name (i := 3) nd rfl (Or.inl rfl)) (pgs_cons (pg_name (i := 4) nd rfl (Or.inl rfl)) (pgs_cons (pg_name (i := 5) nd rfl (Or.inl rfl)) pgs_nil))))
        (pss_cons (ps_expr (pe_bm PySem.F.plainAttrs_list PySem.F.slot_list_append PySem.F.type_list_append mt_append (pe_ix ix_list (pv 2) (pv 3) (fun _ _ => rfl)) (pa_cons (pv 4) pa_nil)))
          (pss_one (ps_expr (pe_bm PySem.F.plainAttrs_list PySem.F.slot_list_append PySem.F.type_list_append mt_append (pe_ix ix_list (pv 2) (pv 4) (fun _ _ => rfl)) (pa_cons (pv 3) pa_nil))))))
      (pss_one (ps_ret (pe_lc (own := [("near", 6)]) (g := _) (tt := _) rfl nd (pi_list (pv 2))
        (blkOk_by (own := [("near", 6)]) (N := ["many", "ties", "found", "a", "b", "length", "near", "place"]) (sc := defScope s_tied_places) (by decide +kernel)) (fun _ _ _ _ _ => (pg_name (i := 6) nd rfl (Or.inl rfl))) (fun _ _ _ _ _ => pts_nil)
        (fun _ _ _ _ _ => pe_callB (cr_sortedT Int hu128) (by rfl) nb.b_sorted (by decide +kernel) (pa_cons (pv 6) pa_nil)))))), ?_⟩
    obtain ⟨c1, hk⟩ := wp_chk hk
    obtain ⟨L, hL, hLs, hLd⟩ := loopN_L hk
    refine ⟨_, rfl, _, rfl, c1.lo, c1.hi, fun D hD => ?_⟩
    refine lc_range (lo := 0) (n := x_many.toNat) (fun i H => ∃ ps : List LC, Ow _ F ((D, .lst (lrefs ps)) :: ps.map lcell) H ∧ ps.map (·.2) = List.replicate i []) ⟨[], O.new hD, rfl⟩ ?_ ?_
    · rintro i H1 hi ⟨ps, O1, e1⟩
      refine ⟨rfl, (by show 0 ≤ sizeLine; decide), fun q hq => ?_⟩
      have O2 := O1.new (o := .lst []) hq
      have hlen : ps.length = i := by
        have := congrArg List.length e1
        simpa using this
      have b := c1.2
      refine ⟨_, O2.at 1 rfl, lt_line (by rw [List.length_map]; omega), ps ++ [(q, [])], ?_, by rw [List.map_append, e1, List.replicate_succ']; rfl⟩
      have O3 := O2.set 1 (.lst ((lrefs ps) ++ [V.ref q])) rfl
      have ea : lrefs (ps ++ [(q, [])]) = lrefs ps ++ [V.ref q] := List.map_append
      rw [ea, List.map_append]
      refine O3.perm ?_
      show ((q, HO.lst []) :: (D, _) :: ps.map lcell).Perm ((D, _) :: (ps.map lcell ++ [(q, HO.lst [])]))
      refine (List.Perm.swap _ _ _).trans (List.Perm.cons _ ?_)
      exact (List.perm_append_comm (l₁ := [(q, HO.lst [])]) (l₂ := ps.map lcell))
    · rintro H1 ⟨ps, O1, e1⟩
      obtain ⟨p1, w1, e2, h2, hl2⟩ := R.lst_ f_ties
      cases e2
      refine ⟨_, rfl, _, _, _, rfl, O1.s _ _ h2, RL.mono hl2 O1.s, fun p3 hp3 => ?_⟩
      obtain ⟨F4, O4, S4, h4⟩ := O1.putE hp3 (.lst (sortV w1 x_ties))
      have hl4 := (RL.sorted hl2).mono S4
      refine ⟨_, rfl, ⟨_, SqLF O4.s h4⟩, ?_⟩
      rw [← e1] at hL
      refine for_list (K := K) (xs := sortV w1 x_ties) (fun i σ H => ∃ (ps' : List LC) (t3 t4 t5 : Option V), σ = [some (V.int x_many), some (V.ref p1), some (V.ref D), t3, t4, t5, none, none] ∧ Ow _ F4 ((D, .lst (lrefs ps')) :: ps'.map lcell) H ∧ ps'.length = x_many.toNat ∧ L (List.drop i (sortT x_ties)) (ps'.map fun (c : LC) => c.2))
        ⟨ps, none, none, none, rfl, O4, (by have := congrArg List.length e1; simpa using this), hL⟩ (fun i_ σ_ H_ _ hp_ => ?_) ?_ ?_
      · obtain ⟨_, _, _, _, _, hO_, _⟩ := hp_
        exact SqLF hO_.s h4
      · rintro i x σ H5 hi ⟨ps', t3, t4, t5, rfl, O5, hl5, hL5⟩
        obtain ⟨y, ey, hy⟩ := RL.got hl4 hi
        rw [drop_at ey] at hL5
        have hk := hLs _ _ _ hL5
        obtain ⟨p6, v1, v2, v3, e6, h6, r1, r2, r3⟩ := R.t3_ hy
        cases e6
        obtain rfl := R.int_ r1
        obtain rfl := R.int_ r2
        obtain rfl := R.int_ r3
        obtain ⟨j, x, ej, ex, cl, hk⟩ := wp_addAt hk
        have hk := wp_bind (k := fun r => Except.ok r) |>.mpr hk
        obtain ⟨j2, x2, ej2, ex2, cl2, hk⟩ := wp_addAt hk
        obtain ⟨c, hc, rfl⟩ := tp_at ex
        obtain ⟨O6, hq6⟩ := tp_app (rest := []) O5 hc y.b
        obtain ⟨l1, l2⟩ := lc_set (y := c.2 ++ [y.b]) hc
        rw [← l2] at ex2 ej2
        obtain ⟨c', hc', rfl⟩ := tp_at ex2
        obtain ⟨O7, hq7⟩ := tp_app (rest := []) O6 hc' y.a
        obtain ⟨l3, l4⟩ := lc_set (y := c'.2 ++ [y.a]) hc'
        have eD : lrefs (ps'.set j (c.1, c.2 ++ [y.b])) = lrefs ps' := by
          have := congrArg (List.map V.ref) l1
          rw [List.map_map, List.map_map] at this
          exact this
        have eD2 : lrefs ((ps'.set j (c.1, c.2 ++ [y.b])).set j2 (c'.1, c'.2 ++ [y.a])) = lrefs (ps'.set j (c.1, c.2 ++ [y.b])) := by
          have := congrArg (List.map V.ref) l3
          rw [List.map_map, List.map_map] at this
          exact this
        have i2 : atI (lrefs ps') y.b = some (.ref c'.1) := by
          rw [← eD]
          exact tp_ix ej2 hc'
        refine ⟨_, _, rfl, SqTF O5.s h6, rfl, _, _, rfl, _, _, rfl, _, _, rfl, rfl, _, rfl, _, rfl, _, _, _, _, rfl, rfl, SqL.of (O5.at 0 rfl), tp_ix ej hc, .inl ⟨rfl, _, SqL.of hq6⟩, _, rfl, _, _, _, rfl, rfl, hq6, by rw [List.length_map]; exact cl, ?_⟩
        refine ⟨_, rfl, _, rfl, _, _, _, _, rfl, rfl, SqL.of (O6.at 0 rfl), i2, .inl ⟨rfl, _, SqL.of hq7⟩, _, rfl, _, _, _, rfl, rfl, hq7, by rw [List.length_map]; exact cl2, ?_⟩
        refine ⟨_, _, _, _, rfl, by rw [eD2, eD]; exact O7, by rw [List.length_set, List.length_set]; exact hl5, ?_⟩
        rw [l4, l2]
        exact hk
      · rintro σ H5 ⟨ps', t3, t4, t5, rfl, O5, hl5, hL5⟩
        rw [drop_end hl4.len] at hL5
        have hk := hLd _ hL5
        refine ⟨_, rfl, _, rfl, ⟨_, SqL.of (O5.at 0 rfl)⟩, fun D2 hD2 => ?_⟩
        have b1 := c1.2
        refine lc_list (K := K) (xs := lrefs ps') (fun i H => ∃ qs : List LC, Ow _ F4 ((D2, .lst (lrefs qs)) :: (qs.map lcell ++ ((D, .lst (lrefs ps')) :: ps'.map lcell))) H ∧ qs.map (·.2) = ((ps'.map (·.2)).take i).map sortT)
          ⟨[], O5.new hD2, by simp⟩ (fun i_ H_ _ hp_ => ?_) ?_ ?_
        · obtain ⟨qs, hO_, _⟩ := hp_
          exact SqL.of (hO_.ch (D, _) (List.mem_cons_of_mem _ (List.mem_append_right _ List.mem_cons_self)))
        · rintro i x H6 hi ⟨qs, O6, e6⟩
          obtain ⟨c, hc, rfl⟩ : ∃ c, ps'[i]? = some c ∧ x = V.ref c.1 := by
            have hi : (ps'.map fun (c : LC) => V.ref c.1)[i]? = some x := hi
            rw [List.getElem?_map] at hi
            cases e : ps'[i]? with
            | none => rw [e] at hi; cases hi
            | some c => rw [e] at hi; exact ⟨c, rfl, (Option.some.inj hi).symm⟩
          have hm : lcell c ∈ ps'.map lcell := List.mem_map.mpr ⟨c, List.mem_of_getElem? hc, rfl⟩
          have hq := O6.ch (lcell c) (List.mem_cons_of_mem _ (List.mem_append_right _ (List.mem_cons_of_mem _ hm)))
          have hil := (List.getElem?_eq_some_iff.mp hc).1
          have hql : qs.length ≤ i := by
            have := congrArg List.length e6
            simp at this
            omega
          have es : sortV (c.2.map V.int) c.2 = (sortT c.2).map V.int := (RL.sorted (H := F) RL.of_ints).ints
          refine ⟨rfl, _, rfl, _, _, c.2, rfl, hq, RL.of_ints, fun p hp => ?_⟩
          have O7 := O6.new (o := .lst (sortV (c.2.map V.int) c.2)) hp
          refine ⟨_, O7.at 1 rfl, lt_line (by rw [List.length_map]; omega), qs ++ [(p, sortT c.2)], ?_, ?_⟩
          · have O8 := O7.set 1 (.lst (lrefs qs ++ [V.ref p])) rfl
            have ea : lrefs (qs ++ [(p, sortT c.2)]) = lrefs qs ++ [V.ref p] := List.map_append
            rw [ea, List.map_append]
            refine O8.perm ?_
            rw [es]
            show ((p, HO.lst _) :: (D2, _) :: (qs.map lcell ++ _)).Perm ((D2, _) :: (qs.map lcell ++ [(p, HO.lst _)] ++ _))
            refine (List.Perm.swap _ _ _).trans (List.Perm.cons _ ?_)
            rw [List.append_assoc]
            exact List.perm_middle.symm
          · rw [List.map_append, e6]
            have e7 : (ps'.map (·.2))[i]? = some c.2 := by rw [List.getElem?_map, hc]; rfl
            rw [List.take_succ, e7, List.map_append]
            rfl
        · rintro H6 ⟨qs, O6, e6⟩
          have el : (lrefs ps').length = (ps'.map (·.2)).length := by rw [List.length_map, List.length_map]
          rw [el, List.take_length] at e6
          have hsub : ∀ c ∈ qs, lcell c ∈ (D2, HO.lst (lrefs qs)) :: (qs.map lcell ++ ((D, .lst (lrefs ps')) :: ps'.map lcell)) := fun c hc => List.mem_cons_of_mem _ (List.mem_append_left _ (List.mem_map.mpr ⟨c, hc, rfl⟩))
          have nas : ∀ b : Addr, ¬ b ∈ ([] : List Addr) := fun b h => nomatch h
          refine hk F4 H6 D2 qs O6.g ⟨O5.was hD2, O6.cf _ List.mem_cons_self, O6.ch _ List.mem_cons_self, fun c hc => (O6.ca _ (hsub c hc)).resolve_left (nas _), fun c hc => O6.cf _ (hsub c hc), fun c hc => O6.ch _ (hsub c hc), ?_⟩ e6
          have n := O6.nd
          rw [List.map_cons, List.map_append, List.nodup_cons, List.nodup_append] at n
          rw [List.nodup_cons]
          have em : (qs.map lcell).map (·.1) = qs.map (·.1) := by
            rw [List.map_map]
            rfl
          rw [em] at n
          exact ⟨fun h => n.1 (List.mem_append_left _ h), n.2.1⟩
theorem ok_tied_places (nb : Nb mg) (D : Df K mg "tied_places" "tied_places" s_tied_places ["many", "ties"]) : Ca P w K mg base "tied_places" 1 ["many", "ties"] (sp_tied_places mg) := by
  refine FnOk.impC (ok_tied_places_own nb D) fun vs H Q E h => ?_
  obtain ⟨F, x_many, v_ties, x_ties, rfl, P0, f_ties, hk⟩ := h
  refine ⟨F, x_many, v_ties, x_ties, rfl, P0, f_ties, wp_mono hk fun r k F' H' p ps g L e => ?_⟩
  obtain ⟨F2, g2, n2, rl⟩ := L.frz g
  rw [e] at rl
  exact k F2 H' g2 p _ L.pn n2 L.ph rl

abbrev s_lengths_of : Stmt := top 15
theorem sc_lengths_of : FnScope ["tree", "found", "a", "b", "length"] ["tree"] (defScope s_lengths_of) := ⟨rfl, rfl, rfl, by decide +kernel, rfl, by decide +kernel, by decide +kernel⟩
def m_lengths_of (x_tree : ((List Int) × (List (T3 Int Int Int)))) : M ((List ((Int × Int) × Int))) :=
loopN (fun (y19 : (T3 Int Int Int)) (st30 : (List ((Int × Int) × Int))) =>
putD st30 ((y19.a, y19.b).1, (y19.a, y19.b).2) y19.c >>= fun z64 =>
putD z64 ((y19.b, y19.a).1, (y19.b, y19.a).2) y19.c >>= fun z82 =>
.ok z82) x_tree.2 ([] : (List ((Int × Int) × Int))) >>= fun st88 =>
.ok st88
def sp_lengths_of (mg : Str → Option Value) : Sp := fun vs H Q E => ∃ (F : Hp) (v_tree : V) (x_tree : ((List Int) × (List (T3 Int Int Int)))), vs = [v_tree] ∧ Pre F [] H ∧ R (a := ((List Int) × (List (T3 Int Int Int)))) F v_tree x_tree ∧
  wp (m_lengths_of x_tree) (fun r => ∀ (F' H' : Hp), Gr [] F H F' H' → ∀ v : V, RDv (κ := (Int × Int)) (β := Int) F' v r → Q v H')
  (fun n => ∀ (C : Addr) (H' : Hp), mg (Str.ofString n) = some (.ref C) → Kp [] H H' → E (.ref C) none H')
set_option maxHeartbeats 2000000 in
theorem ok_lengths_of (nb : Nb mg) (D : Df K mg "lengths_of" "lengths_of" s_lengths_of ["tree"]) : Ca P w K mg base "lengths_of" 1 ["tree"] (sp_lengths_of mg) := by
  refine Ca.mk' D sc_lengths_of (fun vs H Q E h => ?_) (fun q_ f_ cdv A outer s H vs Q E hr h => ?_)
  · obtain ⟨F, _, _, rfl, _⟩ := h
    rfl
  · obtain ⟨F, v_tree, x_tree, rfl, P0, f_tree, hk⟩ := h
    have nd := sc_lengths_of.nd
    have hu64 := hr.units
    have hu128 := hu128_of hr
    have O := P0.start
    refine ⟨_, (pss_cons (ps_set (i := 1) nd rfl (Or.inl rfl) pe_dnewT)
  (pss_cons (ps_for (passes_of rfl) rfl (piListK (K := K) rfl (pe_ix (ixTupK (K := K) rfl) (pv 0) pe_int (fun _ _ => rfl))) (pg_tup rfl (pgs_cons (pg_name (i := 2) nd rfl (Or.inl rfl)) (pgs_cons (pg_name (i := 3) nd rfl (Or.inl rfl)) (pgs_cons (pg_name (i := 4) nd rfl (Or.inl rfl)) pgs_nil)))) (pss_cons (ps_dput (u1_of hu64) (pv 1) (pe_tup (pa_cons (pv 2) (pa_cons (pv 3) pa_nil))) (pv 4) rfl)
  (pss_one (ps_dput (u1_of hu64) (pv 1) (pe_tup (pa_cons (pv 3) (pa_cons (pv 2) pa_nil))) (pv 4) rfl))))
  (pss_one (ps_ret (pv 1))))), ?_⟩
    refine fun p2 hp3 => ?_
    have hl5 : RD (κ := (Int × Int)) (β := Int) F [] ([] : (List ((Int × Int) × Int))) := RD.nil
    have z6 := O.was hp3
    have O4 := O.new (o := .dT []) hp3
    obtain ⟨p7, v10, v11, e8, h9, r12, r13⟩ := R.t2_ f_tree
    cases e8
    obtain ⟨p14, w15, e16, h17, hl18⟩ := R.lst_ r13
    cases e16
    obtain ⟨L20, hL21, hLs22, hLd23⟩ := loopN_L hk
    refine ⟨_, rfl, _, _, _, _, rfl, rfl, (SqTF O4.s h9), rfl, _, rfl, ⟨_, (SqLF O4.s h17)⟩, ?_⟩
    refine for_list (K := K) (xs := w15) (fun i σ H => ∃ (F_ : Hp) (st : (List ((Int × Int) × Int))) (w_0 : (List (List Key × V))) (t_0 : Option V) (t_1 : Option V) (t_2 : Option V), σ = [some (V.ref p7), some (V.ref p2), t_0, t_1, t_2] ∧ Same F F_ ∧ Ow _ F_ [(p2, .dT w_0)] H ∧ RD (κ := (Int × Int)) (β := Int) F_ w_0 st ∧ L20 (List.drop i x_tree.2) st) ⟨F, ([] : (List ((Int × Int) × Int))), [], none, none, none, rfl, Same.refl _, O4, hl5, hL21⟩ (fun i_ σ_ H_ _ hp_ => ?_) ?_ ?_
    · obtain ⟨_, _, _, _, _, _, _, hS_, hO_, _⟩ := hp_
      exact SqLF hO_.s (hS_ _ _ h17)
    · rintro i24 x25 sg26 H27 hi28 ⟨F36, st30, w31, t33, t34, t35, rfl, S29, O37, hl32, hL21⟩
      have f_tree := f_tree.mono S29
      have h9 := S29 _ _ h9
      have r12 := r12.mono S29
      have r13 := r13.mono S29
      have h17 := S29 _ _ h17
      have hl18 := hl18.mono S29
      obtain ⟨y19, e38, r39⟩ := RL.got hl18 hi28
      rw [drop_at e38] at hL21
      have hk := hLs22 _ _ _ hL21
      obtain ⟨p40, v43, v44, v45, e41, h42, r46, r47, r48⟩ := R.t3_ r39
      cases e41
      obtain rfl := R.int_ r46
      obtain rfl := R.int_ r47
      obtain rfl := R.int_ r48
      refine ⟨_, _, rfl, (SqTF O37.s h42), rfl, _, _, rfl, _, _, rfl, _, _, rfl, rfl, _, rfl, _, rfl, _, rfl, _, rfl, (by show 2 ≤ sizeLine; decide), fun p49 hp50 => ?_⟩
      obtain ⟨F51, O52, S53, h54⟩ := O37.putE hp50 (.tup [V.int y19.a, V.int y19.b])
      have f_tree := f_tree.mono S53
      have h9 := S53 _ _ h9
      have r12 := r12.mono S53
      have r13 := r13.mono S53
      have h17 := S53 _ _ h17
      have hl18 := hl18.mono S53
      have hl32 := hl32.mono S53
      have S29 := S29.trans S53
      have r39 := r39.mono S53
      have h42 := S53 _ _ h42
      have h55 : R (a := (Int × Int)) F51 (.ref p49) (y19.a, y19.b) := R.t2 h54 R.int R.int
      obtain ⟨p56, v59, v60, e57, h58, r61, r62⟩ := R.t2_ h55
      cases e57
      obtain rfl := R.int_ r61
      obtain rfl := R.int_ r62
      obtain ⟨c63, hk⟩ := wp_putD hk
      refine ⟨_, _, rfl, (dput_T (v := (V.int y19.c)) (O52.at 0 rfl) (O52.s _ _ h58) (by rw [RD.len hl32]; exact c63)), ?_⟩
      have O65 := O52.set 0 (.dT (putK w31 (DK.kk ((y19.a, y19.b).1, (y19.a, y19.b).2)) (V.int y19.c))) rfl
      have hl66 : RD (κ := (Int × Int)) (β := Int) F51 (putK w31 (DK.kk ((y19.a, y19.b).1, (y19.a, y19.b).2)) (V.int y19.c)) (dPut st30 ((y19.a, y19.b).1, (y19.a, y19.b).2) y19.c) := RD.put hl32 ((y19.a, y19.b).1, (y19.a, y19.b).2) R.int
      refine ⟨_, rfl, _, rfl, _, rfl, _, rfl, (by show 2 ≤ sizeLine; decide), fun p67 hp68 => ?_⟩
      obtain ⟨F69, O70, S71, h72⟩ := O65.putE hp68 (.tup [V.int y19.b, V.int y19.a])
      have f_tree := f_tree.mono S71
      have h9 := S71 _ _ h9
      have r12 := r12.mono S71
      have r13 := r13.mono S71
      have h17 := S71 _ _ h17
      have hl18 := hl18.mono S71
      have S29 := S29.trans S71
      have r39 := r39.mono S71
      have h42 := S71 _ _ h42
      have h55 := h55.mono S71
      have h58 := S71 _ _ h58
      have hl66 := hl66.mono S71
      have h73 : R (a := (Int × Int)) F69 (.ref p67) (y19.b, y19.a) := R.t2 h72 R.int R.int
      obtain ⟨p74, v77, v78, e75, h76, r79, r80⟩ := R.t2_ h73
      cases e75
      obtain rfl := R.int_ r79
      obtain rfl := R.int_ r80
      obtain ⟨c81, hk⟩ := wp_putD hk
      refine ⟨_, _, rfl, (dput_T (v := (V.int y19.c)) (O70.at 0 rfl) (O70.s _ _ h76) (by rw [RD.len hl66]; exact c81)), ?_⟩
      have O83 := O70.set 0 (.dT (putK (putK w31 (DK.kk ((y19.a, y19.b).1, (y19.a, y19.b).2)) (V.int y19.c)) (DK.kk ((y19.b, y19.a).1, (y19.b, y19.a).2)) (V.int y19.c))) rfl
      have hl84 : RD (κ := (Int × Int)) (β := Int) F69 (putK (putK w31 (DK.kk ((y19.a, y19.b).1, (y19.a, y19.b).2)) (V.int y19.c)) (DK.kk ((y19.b, y19.a).1, (y19.b, y19.a).2)) (V.int y19.c)) (dPut (dPut st30 ((y19.a, y19.b).1, (y19.a, y19.b).2) y19.c) ((y19.b, y19.a).1, (y19.b, y19.a).2) y19.c) := RD.put hl66 ((y19.b, y19.a).1, (y19.b, y19.a).2) R.int
      exact ⟨F69, (dPut (dPut st30 ((y19.a, y19.b).1, (y19.a, y19.b).2) y19.c) ((y19.b, y19.a).1, (y19.b, y19.a).2) y19.c), (putK (putK w31 (DK.kk ((y19.a, y19.b).1, (y19.a, y19.b).2)) (V.int y19.c)) (DK.kk ((y19.b, y19.a).1, (y19.b, y19.a).2)) (V.int y19.c)), some (V.int y19.a), some (V.int y19.b), some (V.int y19.c), rfl, S29, O83, hl84, hk⟩
    rintro sg85 H86 ⟨F95, st88, w90, t92, t93, t94, rfl, S87, O96, hl91, hL89⟩
    rw [drop_end hl18.len] at hL89
    have hk := hLd23 _ hL89
    have f_tree := f_tree.mono S87
    have h9 := S87 _ _ h9
    have r12 := r12.mono S87
    have r13 := r13.mono S87
    have h17 := S87 _ _ h17
    have hl18 := hl18.mono S87
    obtain ⟨F97, O98, S99, h100⟩ := O96.frzE 0 rfl z6
    have f_tree := f_tree.mono S99
    have h9 := S99 _ _ h9
    have r12 := r12.mono S99
    have r13 := r13.mono S99
    have h17 := S99 _ _ h17
    have hl18 := hl18.mono S99
    have hl91 := hl91.mono S99
    have h101 := RDv.mk (κ := (Int × Int)) (β := Int) h100 hl91
    refine ⟨_, rfl, ?_⟩
    exact hk _ _  O98.g  _ h101
abbrev s_every_branch : Stmt := top 17
theorem sc_every_branch : FnScope ["tree"] ["tree"] (defScope s_every_branch) := ⟨rfl, rfl, rfl, by decide +kernel, rfl, by decide +kernel, by decide +kernel⟩
def m_every_branch (x_tree : ((List Int) × (List (T3 Int Int Int)))) : M ((List (Int × Int))) :=
m_lengths_of x_tree >>= fun r2 =>
.ok (sortT (List.map (fun x => x.1) r2))
def sp_every_branch (mg : Str → Option Value) : Sp := fun vs H Q E => ∃ (F : Hp) (v_tree : V) (x_tree : ((List Int) × (List (T3 Int Int Int)))), vs = [v_tree] ∧ Pre F [] H ∧ R (a := ((List Int) × (List (T3 Int Int Int)))) F v_tree x_tree ∧
  wp (m_every_branch x_tree) (fun r => ∀ (F' H' : Hp), Gr [] F H F' H' → ∀ (p : Addr) (w : (List V)), H p = none → F' p = none → H' p = some (.lst w) → RL (a := (Int × Int)) F' w r → Q (.ref p) H')
  (fun n => ∀ (C : Addr) (H' : Hp), mg (Str.ofString n) = some (.ref C) → Kp [] H H' → E (.ref C) none H')
set_option maxHeartbeats 2000000 in
theorem ok_every_branch (nb : Nb mg) (C_lengths_of : Ca P w K mg base "lengths_of" 1 ["tree"] (sp_lengths_of mg)) (D : Df K mg "every_branch" "every_branch" s_every_branch ["tree"]) : Ca P w K mg base "every_branch" 2 ["tree"] (sp_every_branch mg) := by
  obtain ⟨fa_lengths_of, fd_lengths_of, G_lengths_of, M_lengths_of, K_lengths_of, B_lengths_of⟩ := C_lengths_of.ex
  refine Ca.mk' D sc_every_branch (fun vs H Q E h => ?_) (fun q_ f_ cdv A outer s H vs Q E hr h => ?_)
  · obtain ⟨F, _, _, rfl, _⟩ := h
    rfl
  · obtain ⟨F, v_tree, x_tree, rfl, P0, f_tree, hk⟩ := h
    have nd := sc_every_branch.nd
    have hu64 := hr.units
    have hu128 := hu128_of hr
    have O := P0.start
    refine ⟨_, (pss_one (ps_ret (pe_callB (cr_sortedDT rfl hu128) (by rfl) nb.b_sorted (by decide +kernel) (pa_cons (pe_call G_lengths_of (hr.mono (by decide)) rfl M_lengths_of K_lengths_of B_lengths_of .nil (passes_call (takes_of rfl rfl rfl rfl) fun _ _ _ _ h => h) (pa_cons (pv 0) pa_nil)) pa_nil)))), ?_⟩
    refine ⟨_, rfl, _, _, _, rfl, O.pre0, f_tree, wp_call hk (fun r2 er3 hk F4 H5 g6 v7 r8 => ?_) (fun n hn C H1 hC kp => hn C H1 hC (O.kp0 kp))⟩
    have O9 := O.call0 g6
    have S_ := g6.f
    have f_tree := f_tree.mono S_
    obtain ⟨p10, w11, e12, h13, hl14⟩ := r8
    cases e12
    have h13 : F4 _ = some (.dT w11) := h13
    have r8 := RDv.mk (κ := (Int × Int)) (β := Int) h13 hl14
    refine ⟨_, _, _, rfl, (O9.s _ _ h13), (RD.keys hl14), fun bs17 p15 hks18 hp16 => ?_⟩
    obtain ⟨F19, O20, S21, hb22⟩ := O9.tups bs17 (keys_tups hks18)
    have f_tree := f_tree.mono S21
    have r8 := r8.mono S21
    have h13 := S21 _ _ h13
    have hl14 := hl14.mono S21
    have hl23 := keys_in hks18 hb22 (RD.keys hl14)
    have hl25 : RL (a := (Int × Int)) F19 (sortV (List.map V.ref bs17) (List.map (fun x => x.1) r2)) (sortT (List.map (fun x => x.1) r2)) := (RL.sorted hl23)
    have z26 := O20.was hp16
    have O24 := O20.new (o := .lst (sortV (List.map V.ref bs17) (List.map (fun x => x.1) r2))) hp16
    exact hk _ _  O24.g  _ _ z26 (O24.cf _ (List.mem_of_getElem? (i := 0) rfl)) (O24.at 0 rfl) hl25
abbrev s_row_with : Stmt := top 18
theorem sc_row_with : FnScope ["tree", "rule", "place", "near", "own", "so", "more"] ["tree", "rule", "place", "near"] (defScope s_row_with) := ⟨rfl, rfl, rfl, by decide +kernel, rfl, by decide +kernel, by decide +kernel⟩
def m_row_with (x_tree : ((List Int) × (List (T3 Int Int Int)))) (x_rule : (T4 (List Sm) (List Sm) (List Sm) Sm)) (x_place : Int) (x_near : (List (List Int))) : M ((List Int)) :=
opt (atI x_tree.1 x_place) >>= fun y13 =>
m_begun x_rule y13 >>= fun r18 =>
loopN (fun (y42 : (List Int)) (st53 : (List Int)) =>
m_joined x_rule st53 y42 y13 >>= fun r61 =>
.ok r61) x_near r18 >>= fun st83 =>
.ok st83
def sp_row_with (mg : Str → Option Value) : Sp := fun vs H Q E => ∃ (F : Hp) (v_tree : V) (x_tree : ((List Int) × (List (T3 Int Int Int)))) (v_rule : V) (x_rule : (T4 (List Sm) (List Sm) (List Sm) Sm)) (x_place : Int) (v_near : V) (x_near : (List (List Int))), vs = [v_tree, v_rule, V.int x_place, v_near] ∧ Pre F [] H ∧ R (a := ((List Int) × (List (T3 Int Int Int)))) F v_tree x_tree ∧ R (a := (T4 (List Sm) (List Sm) (List Sm) Sm)) F v_rule x_rule ∧ R (a := (List (List Int))) F v_near x_near ∧
  wp (m_row_with x_tree x_rule x_place x_near) (fun r => ∀ (F' H' : Hp), Gr [] F H F' H' → ∀ v : V, R (a := (List Int)) F' v r → Q v H')
  (fun n => ∀ (C : Addr) (H' : Hp), mg (Str.ofString n) = some (.ref C) → Kp [] H H' → E (.ref C) none H')
set_option maxHeartbeats 2000000 in
theorem ok_row_with (nb : Nb mg) (C_begun : Ca P w K mg base "begun" 14 ["rule", "own"] (sp_begun mg)) (C_joined : Ca P w K mg base "joined" 14 ["rule", "so", "more", "own"] (sp_joined mg)) (D : Df K mg "row_with" "row_with" s_row_with ["tree", "rule", "place", "near"]) : Ca P w K mg base "row_with" 15 ["tree", "rule", "place", "near"] (sp_row_with mg) := by
  obtain ⟨fa_begun, fd_begun, G_begun, M_begun, K_begun, B_begun⟩ := C_begun.ex
  obtain ⟨fa_joined, fd_joined, G_joined, M_joined, K_joined, B_joined⟩ := C_joined.ex
  refine Ca.mk' D sc_row_with (fun vs H Q E h => ?_) (fun q_ f_ cdv A outer s H vs Q E hr h => ?_)
  · obtain ⟨F, _, _, _, _, _, _, _, rfl, _⟩ := h
    rfl
  · obtain ⟨F, v_tree, x_tree, v_rule, x_rule, x_place, v_near, x_near, rfl, P0, f_tree, f_rule, f_near, hk⟩ := h
    have nd := sc_row_with.nd
    have hu64 := hr.units
    have hu128 := hu128_of hr
    have O := P0.start
    refine ⟨_, (pss_cons (ps_set (i := 4) nd rfl (Or.inl rfl) (pe_ix (ixListK (K := K) rfl) (pe_ix (ixTupK (K := K) rfl) (pv 0) pe_int (fun _ _ => rfl)) (pv 2) (fun _ _ => rfl)))
  (pss_cons (ps_set (i := 5) nd rfl (Or.inl rfl) (pe_call G_begun (hr.mono (by decide)) rfl M_begun K_begun B_begun .nil (passes_call (takes_of rfl rfl rfl rfl) fun _ _ _ _ h => h) (pa_cons (pv 1) (pa_cons (pv 4) pa_nil))))
  (pss_cons (ps_for (passes_of rfl) rfl (piListK (K := K) rfl (pv 3)) (pg_name (i := 6) nd rfl (Or.inl rfl)) (pss_one (ps_set (i := 5) nd rfl (Or.inl rfl) (pe_call G_joined (hr.mono (by decide)) rfl M_joined K_joined B_joined .nil (passes_call (takes_of rfl rfl rfl rfl) fun _ _ _ _ h => h) (pa_cons (pv 1) (pa_cons (pv 5) (pa_cons (pv 6) (pa_cons (pv 4) pa_nil))))))))
  (pss_one (ps_ret (pv 5)))))), ?_⟩
    obtain ⟨p1, v4, v5, e2, h3, r6, r7⟩ := R.t2_ f_tree
    cases e2
    obtain ⟨p8, w9, e10, h11, hl12⟩ := R.lst_ r6
    cases e10
    obtain ⟨y13, e14, hk⟩ := wp_opt hk
    obtain ⟨w15, e16, r17⟩ := hl12.atI e14
    obtain rfl := R.int_ r17
    refine ⟨_, rfl, _, _, _, _, rfl, rfl, (SqTF O.s h3), rfl, _, rfl, _, _, _, _, rfl, rfl, (SqLF O.s h11), e16, _, rfl, _, rfl, _, _, _, _, rfl, O.pre0, f_rule, wp_call hk (fun r18 er19 hk F20 H21 g22 p23 w24 hn25 hf26 h27 hl28 => ?_) (fun n hn C H1 hC kp => hn C H1 hC (O.kp0 kp))⟩
    have O29 := O.call0 g22
    have S_ := g22.f
    have f_tree := f_tree.mono S_
    have f_rule := f_rule.mono S_
    have f_near := f_near.mono S_
    have h3 := S_ _ _ h3
    have r6 := r6.mono S_
    have r7 := r7.mono S_
    have h11 := S_ _ _ h11
    have hl12 := hl12.mono S_
    have O30 := O.got O29 rfl hn25 hf26 h27
    have z31 := O.was hn25
    obtain ⟨F32, O33, S34, h35⟩ := O30.frzE 0 rfl z31
    have f_tree := f_tree.mono S34
    have f_rule := f_rule.mono S34
    have f_near := f_near.mono S34
    have h3 := S34 _ _ h3
    have r6 := r6.mono S34
    have r7 := r7.mono S34
    have h11 := S34 _ _ h11
    have hl12 := hl12.mono S34
    have hl28 := hl28.mono S34
    have h36 := R.lst (a := Int) h35 hl28
    obtain ⟨p37, w38, e39, h40, hl41⟩ := R.lst_ f_near
    cases e39
    obtain ⟨L43, hL44, hLs45, hLd46⟩ := loopN_L hk
    refine ⟨_, rfl, _, rfl, ⟨_, (SqLF O33.s h40)⟩, ?_⟩
    refine for_list (K := K) (xs := w38) (fun i σ H => ∃ (F_ : Hp) (st : (List Int)) (v_0 : V) (t_0 : Option V), σ = [some (V.ref p1), some v_rule, some (V.int x_place), some (V.ref p37), some (V.int y13), some v_0, t_0] ∧ Same F32 F_ ∧ Ow _ F_ [] H ∧ R (a := (List Int)) F_ v_0 st ∧ L43 (List.drop i x_near) st) ⟨F32, r18, V.ref p23, none, rfl, Same.refl _, O33, h36, hL44⟩ (fun i_ σ_ H_ _ hp_ => ?_) ?_ ?_
    · obtain ⟨_, _, _, _, _, hS_, hO_, _⟩ := hp_
      exact SqLF hO_.s (hS_ _ _ h40)
    · rintro i47 x48 sg49 H50 hi51 ⟨F57, st53, v54, t56, rfl, S52, O58, r55, hL44⟩
      have f_tree := f_tree.mono S52
      have f_rule := f_rule.mono S52
      have f_near := f_near.mono S52
      have h3 := S52 _ _ h3
      have r6 := r6.mono S52
      have r7 := r7.mono S52
      have h11 := S52 _ _ h11
      have hl12 := hl12.mono S52
      have h36 := h36.mono S52
      have h40 := S52 _ _ h40
      have hl41 := hl41.mono S52
      obtain ⟨y42, e59, r60⟩ := RL.got hl41 hi51
      rw [drop_at e59] at hL44
      have hk := hLs45 _ _ _ hL44
      refine ⟨_, rfl, _, rfl, _, rfl, _, rfl, _, _, _, _, _, _, _, _, rfl, O58.pre0, f_rule, r55, r60, wp_call hk (fun r61 er62 hk F63 H64 g65 p66 w67 hn68 hf69 h70 hl71 => ?_) (fun n hn C H1 hC kp => hn C H1 hC (O58.kp0 kp))⟩
      have O72 := O58.call0 g65
      have S_ := g65.f
      have f_tree := f_tree.mono S_
      have f_rule := f_rule.mono S_
      have f_near := f_near.mono S_
      have h3 := S_ _ _ h3
      have r6 := r6.mono S_
      have r7 := r7.mono S_
      have h11 := S_ _ _ h11
      have hl12 := hl12.mono S_
      have h36 := h36.mono S_
      have h40 := S_ _ _ h40
      have hl41 := hl41.mono S_
      have r55 := r55.mono S_
      have S52 := S52.trans S_
      have r60 := r60.mono S_
      have O73 := O58.got O72 rfl hn68 hf69 h70
      have z74 := O58.was hn68
      obtain ⟨F75, O76, S77, h78⟩ := O73.frzE 0 rfl z74
      have f_tree := f_tree.mono S77
      have f_rule := f_rule.mono S77
      have f_near := f_near.mono S77
      have h3 := S77 _ _ h3
      have r6 := r6.mono S77
      have r7 := r7.mono S77
      have h11 := S77 _ _ h11
      have hl12 := hl12.mono S77
      have h36 := h36.mono S77
      have h40 := S77 _ _ h40
      have hl41 := hl41.mono S77
      have r55 := r55.mono S77
      have S52 := S52.trans S77
      have r60 := r60.mono S77
      have hl71 := hl71.mono S77
      have h79 := R.lst (a := Int) h78 hl71
      exact ⟨F75, r61, V.ref p66, some x48, rfl, S52, O76, h79, hk⟩
    rintro sg80 H81 ⟨F88, st83, v85, t87, rfl, S82, O89, r86, hL84⟩
    rw [drop_end hl41.len] at hL84
    have hk := hLd46 _ hL84
    have f_tree := f_tree.mono S82
    have f_rule := f_rule.mono S82
    have f_near := f_near.mono S82
    have h3 := S82 _ _ h3
    have r6 := r6.mono S82
    have r7 := r7.mono S82
    have h11 := S82 _ _ h11
    have hl12 := hl12.mono S82
    have h36 := h36.mono S82
    have h40 := S82 _ _ h40
    have hl41 := hl41.mono S82
    refine ⟨_, rfl, ?_⟩
    exact hk _ _  O89.g  _ r86
abbrev s_order_of : Stmt := top 20
theorem sc_order_of : FnScope ["near", "branches", "left", "found", "at", "c", "branch", "a", "b"] ["near", "branches"] (defScope s_order_of) := ⟨rfl, rfl, rfl, by decide +kernel, rfl, by decide +kernel, by decide +kernel⟩
def m_order_of (x_near : (List (List Int))) (x_branches : (List (Int × Int))) : M ((List (Int × Int))) :=
compS (fun (y7 : (Int × Int)) (st24 : Unit) =>
opt (atI x_near y7.2) >>= fun y49 =>
.ok (some ((y7.1, y7.2), ((y49.length : Int) - (1 : Int))), ())) x_branches () >>= fun q77 =>
compS (fun (y104 : (Int × Int)) (st121 : Unit) =>
opt (dGet (mergeDT q77.1) y104) >>= fun y127 =>
if y127 = (0 : Int) then (
.ok (some y104, ()))
else (
.ok (none, ()))) x_branches () >>= fun q151 =>
whL (r := Unit) (fun (st162 : Int × (List ((Int × Int) × Int)) × (List (Int × Int))) =>
if st162.1 < (st162.2.2.length : Int) then (
opt (atI st162.2.2 st162.1) >>= fun y174 =>
opt (atI x_near y174.1) >>= fun y191 =>
loopN (fun (y201 : Int) (st212 : (List ((Int × Int) × Int)) × (List (Int × Int))) =>
if y201 ≠ y174.2 then (
opt (dGet st212.1 ((y201, y174.1).1, (y201, y174.1).2)) >>= fun y230 =>
putD st212.1 ((y201, y174.1).1, (y201, y174.1).2) (y230 - (1 : Int)) >>= fun z243 =>
opt (dGet z243 (y201, y174.1)) >>= fun y253 =>
if y253 = (0 : Int) then (
appL st212.2 (y201, y174.1) >>= fun _ =>
.ok (z243, (st212.2 ++ [(y201, y174.1)])))
else (
.ok (z243, st212.2)))
else (
.ok (st212.1, st212.2))) y191 (st162.2.1, st162.2.2) >>= fun st280 =>
.ok (.go ((st162.1 + (1 : Int)), st280.1, st280.2)))
else (
.ok (.stop (st162.1, st162.2.1, st162.2.2)))) 1000000 ((0 : Int), (mergeDT q77.1), q151.1) >>= fun f303 => match f303 with
| .rt _ => bad
| .nx st292 =>
.ok st292.2.2
def sp_order_of (mg : Str → Option Value) : Sp := fun vs H Q E => ∃ (F : Hp) (v_near : V) (x_near : (List (List Int))) (v_branches : V) (x_branches : (List (Int × Int))), vs = [v_near, v_branches] ∧ Pre F [] H ∧ R (a := (List (List Int))) F v_near x_near ∧ R (a := (List (Int × Int))) F v_branches x_branches ∧
  wp (m_order_of x_near x_branches) (fun r => ∀ (F' H' : Hp), Gr [] F H F' H' → ∀ (p : Addr) (w : (List V)), H p = none → F' p = none → H' p = some (.lst w) → RL (a := (Int × Int)) F' w r → Q (.ref p) H')
  (fun n => ∀ (C : Addr) (H' : Hp), mg (Str.ofString n) = some (.ref C) → Kp [] H H' → E (.ref C) none H')
set_option maxHeartbeats 2000000 in
theorem ok_order_of (nb : Nb mg) (D : Df K mg "order_of" "order_of" s_order_of ["near", "branches"]) : Ca P w K mg base "order_of" 1 ["near", "branches"] (sp_order_of mg) := by
  refine Ca.mk' D sc_order_of (fun vs H Q E h => ?_) (fun q_ f_ cdv A outer s H vs Q E hr h => ?_)
  · obtain ⟨F, _, _, _, _, rfl, _⟩ := h
    rfl
  · obtain ⟨F, v_near, x_near, v_branches, x_branches, rfl, P0, f_near, f_branches, hk⟩ := h
    have nd := sc_order_of.nd
    have hu64 := hr.units
    have hu128 := hu128_of hr
    have O := P0.start
    refine ⟨_, (pss_cons (ps_set (i := 2) nd rfl (Or.inr rfl) (pe_callTy (call_dictT rfl hu64) (by rfl) nb.b_dict (by decide +kernel) (pa_cons (pe_lc (own := [("a", 7), ("b", 8)]) (g := gTup K 2 (gCons (gName 7) (gCons (gName 8) (gNil)))) (tt := _) rfl nd (piListK (K := K) rfl (pv 1)) (blkOk_by (own := [("a", 7), ("b", 8)]) (N := ["near", "branches", "left", "found", "at", "c", "branch", "a", "b"]) (sc := defScope s_order_of) (by decide +kernel)) (fun _ _ _ _ _ => (pg_tup rfl (pgs_cons (pg_name (i := 7) nd rfl (Or.inl rfl)) (pgs_cons (pg_name (i := 8) nd rfl (Or.inl rfl)) pgs_nil)))) (fun _ _ _ _ _ => pts_nil) (fun _ _ _ _ _ => (pe_tup (pa_cons (pe_tup (pa_cons (pv 7) (pa_cons (pv 8) pa_nil))) (pa_cons (pe_op op_sub (pe_callB call_lenT (by rfl) nb.b_len PySem.boot_len (pa_cons (pe_ix (ixListK (K := K) rfl) (pv 0) (pv 8) (fun _ _ => rfl)) pa_nil)) pe_int) pa_nil))))) pa_nil)))
  (pss_cons (ps_setLc (i := 3) (own := [("branch", 6)]) (g := gName 6) (tt := _) rfl nd rfl rfl (sw_true rfl rfl rfl (by decide +kernel)) (piListK (K := K) rfl (pv 1)) (blkOk_by (own := [("branch", 6)]) (N := ["near", "branches", "left", "found", "at", "c", "branch", "a", "b"]) (sc := defScope s_order_of) (by decide +kernel)) (fun _ _ _ _ _ => (pg_name (i := 6) nd rfl (Or.inl rfl))) (fun _ _ _ _ _ => (pts_one (pt_cmpR (op_eqT Int hu64) (pe_dget (u1_of hu64) (pv 2) (pv 6) (fun _ _ => rfl)) pe_int (nomark _)))) (fun _ _ _ _ _ => (pv 6)))
  (pss_cons (ps_set (i := 4) nd rfl (Or.inl rfl) pe_int)
  (pss_cons (ps_while (passes_of rfl) (pt_cmpR op_lt (pv 4) (pe_callB call_lenT (by rfl) nb.b_len PySem.boot_len (pa_cons (pv 3) pa_nil)) (nomark _)) (pss_cons (ps_asg (pe_ix (ixListK (K := K) rfl) (pv 3) (pv 4) (fun _ _ => rfl)) (pg_tup rfl (pgs_cons (pg_name (i := 7) nd rfl (Or.inl rfl)) (pgs_cons (pg_name (i := 8) nd rfl (Or.inl rfl)) pgs_nil))))
  (pss_cons (ps_for (passes_of rfl) rfl (piListK (K := K) rfl (pe_ix (ixListK (K := K) rfl) (pv 0) (pv 7) (fun _ _ => rfl))) (pg_name (i := 5) nd rfl (Or.inl rfl)) (pss_one (ps_if (pt_cmpR (op_neT Int hu64) (pv 5) (pv 8) (nomark _)) (pss_cons (ps_daug (u1_of hu64) (pv 2) (pe_tup (pa_cons (pv 5) (pa_cons (pv 7) pa_nil))) pe_int in_sub (by intros; rfl))
  (pss_one (ps_if (pt_cmpR (op_eqT Int hu64) (pe_dget (u1_of hu64) (pv 2) (pe_tup (pa_cons (pv 5) (pa_cons (pv 7) pa_nil))) (fun _ _ => rfl)) pe_int (nomark _)) (pss_one (ps_expr (pe_bm PySem.F.plainAttrs_list PySem.F.slot_list_append PySem.F.type_list_append mt_append (pv 3) (pa_cons (pe_tup (pa_cons (pv 5) (pa_cons (pv 7) pa_nil))) pa_nil)))) pss_nil))) pss_nil)))
  (pss_one (ps_aug (i := 4) nd rfl (Or.inl rfl) pe_int ip_add)))))
  (pss_one (ps_ret (pv 3))))))), ?_⟩
    obtain ⟨p2, w3, e4, h5, hl6⟩ := R.lst_ f_branches
    cases e4
    obtain ⟨c12, L8, hL9, hLs10, hLd11⟩ := compS_L hk
    refine ⟨_, rfl, _, rfl, ⟨_, (SqLF O.s h5)⟩, fun p13 hp14 => ?_⟩
    have z66 := O.was hp14
    refine lc_list (K := K) (xs := w3) (fun i H => ∃ (F_ : Hp) (st : Unit) (acc : List ((Int × Int) × Int)) (wa : List V), Same F F_ ∧ Ow _ F_ [(p13, .lst wa)] H ∧ RL F_ wa acc ∧ wa.length ≤ i ∧ L8 (List.drop i x_branches) acc st) ⟨F, (), [], [], Same.refl _, O.new hp14, RL.nil, Nat.zero_le _, hL9⟩ (fun i_ H_ _ hp_ => ?_) ?_ ?_
    · obtain ⟨_, _, _, _, hS_, hO_, _⟩ := hp_
      exact SqLF hO_.s (hS_ _ _ h5)
    · rintro i15 x16 H17 hi18 ⟨F23, st24, acc20, wa21, S25, O27, hl26, la22, hL9⟩
      have f_near := f_near.mono S25
      have f_branches := f_branches.mono S25
      have h5 := S25 _ _ h5
      have hl6 := hl6.mono S25
      obtain ⟨y7, e28, r29⟩ := RL.got hl6 hi18
      rw [drop_at e28] at hL9
      have hk := hLs10 _ _ _ _ hL9
      obtain ⟨p30, v33, v34, e31, h32, r35, r36⟩ := R.t2_ r29
      cases e31
      obtain rfl := R.int_ r35
      obtain rfl := R.int_ r36
      refine ⟨_, _, rfl, (SqTF O27.s h32), rfl, _, _, rfl, _, _, rfl, rfl, rfl, ?_⟩
      refine ⟨_, rfl, _, rfl, (by show 2 ≤ sizeLine; decide), fun p37 hp38 => ?_⟩
      obtain ⟨F39, O40, S41, h42⟩ := O27.putE hp38 (.tup [V.int y7.1, V.int y7.2])
      have f_near := f_near.mono S41
      have f_branches := f_branches.mono S41
      have h5 := S41 _ _ h5
      have hl6 := hl6.mono S41
      have S25 := S25.trans S41
      have hl26 := hl26.mono S41
      have r29 := r29.mono S41
      have h32 := S41 _ _ h32
      have h43 : R (a := (Int × Int)) F39 (.ref p37) (y7.1, y7.2) := R.t2 h42 R.int R.int
      obtain ⟨p44, w45, e46, h47, hl48⟩ := R.lst_ f_near
      cases e46
      obtain ⟨y49, e50, hk⟩ := wp_opt hk
      obtain ⟨w51, e52, r53⟩ := hl48.atI e50
      obtain ⟨p54, w55, e56, h57, hl58⟩ := R.lst_ r53
      cases e56
      refine ⟨_, rfl, _, rfl, _, _, _, _, rfl, rfl, (SqLF O40.s h47), e52, _, _, _, rfl, (.inl (O40.s _ _ h57)), hl58.len, _, _, rfl, rfl, (by show 2 ≤ sizeLine; decide), fun p59 hp60 => ?_⟩
      obtain ⟨F61, O62, S63, h64⟩ := O40.putE hp60 (.tup [V.ref p37, V.int ((y49.length : Int) - (1 : Int))])
      have f_near := f_near.mono S63
      have f_branches := f_branches.mono S63
      have h5 := S63 _ _ h5
      have hl6 := hl6.mono S63
      have S25 := S25.trans S63
      have hl26 := hl26.mono S63
      have r29 := r29.mono S63
      have h32 := S63 _ _ h32
      have h43 := h43.mono S63
      have h47 := S63 _ _ h47
      have hl48 := hl48.mono S63
      have r53 := r53.mono S63
      have h57 := S63 _ _ h57
      have hl58 := hl58.mono S63
      have h65 : R (a := ((Int × Int) × Int)) F61 (.ref p59) ((y7.1, y7.2), ((y49.length : Int) - (1 : Int))) := R.t2 h64 h43 R.int
      refine ⟨_, (O62.at 0 rfl), (comp_len la22 hi18 hl6.len c12), ?_⟩
      exact ⟨F61, (), acc20 ++ [((y7.1, y7.2), ((y49.length : Int) - (1 : Int)))], wa21 ++ [V.ref p59], S25, O62.set 0 (.lst (wa21 ++ [V.ref p59])) rfl, RL.snoc hl26 h65, by rw [List.length_append]; exact Nat.succ_le_succ la22, hk⟩
    rintro H67 ⟨F68, st69, acc70, wa71, S72, O73, hl74, la75, hL76⟩
    rw [drop_end hl6.len] at hL76
    have hk := hLd11 _ _ hL76
    have f_near := f_near.mono S72
    have f_branches := f_branches.mono S72
    have h5 := S72 _ _ h5
    have hl6 := hl6.mono S72
    obtain ⟨F78, O79, S80, h81⟩ := O73.frzE 0 rfl z66
    have f_near := f_near.mono S80
    have f_branches := f_branches.mono S80
    have h5 := S80 _ _ h5
    have hl6 := hl6.mono S80
    have hl74 := hl74.mono S80
    have h82 := R.lst (a := ((Int × Int) × Int)) h81 hl74
    obtain ⟨p83, w84, e85, h86, hl87⟩ := R.lst_ h82
    cases e85
    obtain ⟨ps88, kvs89, e90, hps91, hl92⟩ := pairsT_of_rl (K := K) O79.s hl87
    refine ⟨_, ps88, kvs89, rfl, (by rw [← e90]; exact (SqLF O79.s h86)), hps91, fun p93 hp94 => ?_⟩
    have hl95 : RD (κ := (Int × Int)) (β := Int) F78 (mergeT [] kvs89) (mergeDT acc70) := mergeT_rd hl92 .nil
    have z97 := O79.was hp94
    have O96 := O79.new (o := .dT (mergeT [] kvs89)) hp94
    obtain ⟨p99, w100, e101, h102, hl103⟩ := R.lst_ f_branches
    cases e101
    obtain ⟨c109, L105, hL106, hLs107, hLd108⟩ := compS_L hk
    refine ⟨_, rfl, _, rfl, ⟨_, (SqLF O96.s h102)⟩, fun p110 hp111 => ?_⟩
    have z140 := O96.was hp111
    refine lc_list (K := K) (xs := w100) (fun i H => ∃ (F_ : Hp) (st : Unit) (acc : List (Int × Int)) (wa : List V), Same F78 F_ ∧ Ow _ F_ [(p110, .lst wa), (p93, .dT (mergeT [] kvs89))] H ∧ RL F_ wa acc ∧ wa.length ≤ i ∧ L105 (List.drop i x_branches) acc st) ⟨F78, (), [], [], Same.refl _, O96.new hp111, RL.nil, Nat.zero_le _, hL106⟩ (fun i_ H_ _ hp_ => ?_) ?_ ?_
    · obtain ⟨_, _, _, _, hS_, hO_, _⟩ := hp_
      exact SqLF hO_.s (hS_ _ _ h102)
    · rintro i112 x113 H114 hi115 ⟨F120, st121, acc117, wa118, S122, O124, hl123, la119, hL106⟩
      have f_near := f_near.mono S122
      have f_branches := f_branches.mono S122
      have h5 := S122 _ _ h5
      have hl6 := hl6.mono S122
      have h82 := h82.mono S122
      have h86 := S122 _ _ h86
      have hl87 := hl87.mono S122
      have hl92 := hl92.mono S122
      have hl95 := hl95.mono S122
      have h102 := S122 _ _ h102
      have hl103 := hl103.mono S122
      obtain ⟨y104, e125, r126⟩ := RL.got hl103 hi115
      rw [drop_at e125] at hL106
      have hk := hLs107 _ _ _ _ hL106
      obtain ⟨p132, v135, v136, e133, h134, r137, r138⟩ := R.t2_ r126
      cases e133
      obtain rfl := R.int_ r137
      obtain rfl := R.int_ r138
      obtain ⟨y127, e128, hk⟩ := wp_opt hk
      obtain ⟨w129, e130, r131⟩ := RD.some hl95 (k := (y104.1, y104.2)) e128
      obtain rfl := R.int_ r131
      refine ⟨rfl, _, rfl, _, rfl, _, _, rfl, (dget_T (O124.at 1 rfl) (O124.s _ _ h134) e130), _, _, R.int, R.int, _, rfl, ?_⟩
      refine iteD (fun q139 => ?_) (fun q139 => ?_)
      · have hk := wp_if hk q139
        refine ⟨_, rfl, _, (O124.at 0 rfl), (comp_len la119 hi115 hl103.len c109), ?_⟩
        exact ⟨F120, (), acc117 ++ [y104], wa118 ++ [V.ref p132], S122, O124.set 0 (.lst (wa118 ++ [V.ref p132])) rfl, RL.snoc hl123 r126, by rw [List.length_append]; exact Nat.succ_le_succ la119, hk⟩
      · have hk := wp_el hk q139
        exact ⟨F120, (), acc117, wa118, S122, O124, hl123, Nat.le_succ_of_le la119, hk⟩
    rintro H141 ⟨F142, st143, acc144, wa145, S146, O147, hl148, la149, hL150⟩
    rw [drop_end hl103.len] at hL150
    have hk := hLd108 _ _ hL150
    have f_near := f_near.mono S146
    have f_branches := f_branches.mono S146
    have h5 := S146 _ _ h5
    have hl6 := hl6.mono S146
    have h82 := h82.mono S146
    have h86 := S146 _ _ h86
    have hl87 := hl87.mono S146
    have hl92 := hl92.mono S146
    have hl95 := hl95.mono S146
    have h102 := S146 _ _ h102
    have hl103 := hl103.mono S146
    obtain ⟨L152, X153, hL154, hLs155, hLd156⟩ := whL_L hk
    refine while_P (fun n σ H_ => ∃ (F_ : Hp) (st : Int × (List ((Int × Int) × Int)) × (List (Int × Int))) (w_0 : (List (List Key × V))) (w_1 : (List V)) (t_0 : Option V) (t_1 : Option V) (t_2 : Option V), σ = [some v_near, some (V.ref p2), some (V.ref p93), some (V.ref p110), some (V.int st.1), t_2, none, t_0, t_1] ∧ Same F142 F_ ∧ Ow (⟨[], F, H⟩ : Ent) F_ [(p110, .lst w_1), (p93, .dT w_0)] H_ ∧ RD (κ := (Int × Int)) (β := Int) F_ w_0 st.2.1 ∧ RL (a := (Int × Int)) F_ w_1 st.2.2 ∧ L152 n st) (fun σ H_ => ∃ (F_ : Hp) (st : Int × (List ((Int × Int) × Int)) × (List (Int × Int))) (w_0 : (List (List Key × V))) (w_1 : (List V)) (t_0 : Option V) (t_1 : Option V) (t_2 : Option V), σ = [some v_near, some (V.ref p2), some (V.ref p93), some (V.ref p110), some (V.int st.1), t_2, none, t_0, t_1] ∧ Same F142 F_ ∧ Ow (⟨[], F, H⟩ : Ent) F_ [(p110, .lst w_1), (p93, .dT w_0)] H_ ∧ RD (κ := (Int × Int)) (β := Int) F_ w_0 st.2.1 ∧ RL (a := (Int × Int)) F_ w_1 st.2.2 ∧ X153 st) 1000000 ⟨F142, ((0 : Int), (mergeDT acc70), acc144), (mergeT [] kvs89), wa145, none, none, none, rfl, Same.refl _, O147, hl95, hl148, hL154⟩ ?_ ?_
    rotate_left
    · rintro hex157 m158 sg159 H160 ⟨F171, st162, w164, w165, t168, t169, t170, rfl, S161, O172, hl166, hl167, hL163⟩
      have f_near := f_near.mono S161
      have f_branches := f_branches.mono S161
      have h5 := S161 _ _ h5
      have hl6 := hl6.mono S161
      have h82 := h82.mono S161
      have h86 := S161 _ _ h86
      have hl87 := hl87.mono S161
      have hl92 := hl92.mono S161
      have h102 := S161 _ _ h102
      have hl103 := hl103.mono S161
      have hk := hLs155 _ _ hL163
      refine ⟨_, rfl, _, rfl, _, _, _, rfl, (.inl (O172.at 0 rfl)), hl167.len, _, _, rfl, rfl, _, rfl, ?_⟩
      refine iteD (fun q173 => ?_) (fun q173 => ?_)
      · have hk := wp_if hk q173
        obtain ⟨y174, e175, hk⟩ := wp_opt hk
        obtain ⟨w176, e177, r178⟩ := hl167.atI e175
        obtain ⟨p179, v182, v183, e180, h181, r184, r185⟩ := R.t2_ r178
        cases e180
        obtain rfl := R.int_ r184
        obtain rfl := R.int_ r185
        obtain ⟨p186, w187, e188, h189, hl190⟩ := R.lst_ f_near
        cases e188
        obtain ⟨y191, e192, hk⟩ := wp_opt hk
        obtain ⟨w193, e194, r195⟩ := hl190.atI e192
        obtain ⟨p196, w197, e198, h199, hl200⟩ := R.lst_ r195
        cases e198
        obtain ⟨L202, hL203, hLs204, hLd205⟩ := loopN_L hk
        refine ⟨_, (fun _ _ h_ => h_), _, rfl, _, rfl, _, _, _, _, rfl, rfl, (SqL.of (O172.at 0 rfl)), e177, _, _, rfl, (SqTF O172.s h181), rfl, _, _, rfl, _, _, rfl, rfl, _, rfl, _, rfl, _, _, _, _, rfl, rfl, (SqLF O172.s h189), e194, _, rfl, ⟨_, (SqLF O172.s h199)⟩, ?_⟩
        refine for_list (K := K) (xs := w197) (fun i σ H => ∃ (F_ : Hp) (st : (List ((Int × Int) × Int)) × (List (Int × Int))) (w_0 : (List (List Key × V))) (w_1 : (List V)) (t_0 : Option V), σ = [some (V.ref p186), some (V.ref p2), some (V.ref p93), some (V.ref p110), some (V.int st162.1), t_0, none, some (V.int y174.1), some (V.int y174.2)] ∧ Same F171 F_ ∧ Ow _ F_ [(p110, .lst w_1), (p93, .dT w_0)] H ∧ RD (κ := (Int × Int)) (β := Int) F_ w_0 st.1 ∧ RL (a := (Int × Int)) F_ w_1 st.2 ∧ L202 (List.drop i y191) st) ⟨F171, (st162.2.1, st162.2.2), w164, w165, t170, rfl, Same.refl _, O172, hl166, hl167, hL203⟩ (fun i_ σ_ H_ _ hp_ => ?_) ?_ ?_
        · obtain ⟨_, _, _, _, _, _, hS_, hO_, _⟩ := hp_
          exact SqLF hO_.s (hS_ _ _ h199)
        · rintro i206 x207 sg208 H209 hi210 ⟨F218, st212, w213, w214, t217, rfl, S211, O219, hl215, hl216, hL203⟩
          have f_near := f_near.mono S211
          have f_branches := f_branches.mono S211
          have h5 := S211 _ _ h5
          have hl6 := hl6.mono S211
          have h82 := h82.mono S211
          have h86 := S211 _ _ h86
          have hl87 := hl87.mono S211
          have hl92 := hl92.mono S211
          have h102 := S211 _ _ h102
          have hl103 := hl103.mono S211
          have S161 := S161.trans S211
          have r178 := r178.mono S211
          have h181 := S211 _ _ h181
          have h189 := S211 _ _ h189
          have hl190 := hl190.mono S211
          have r195 := r195.mono S211
          have h199 := S211 _ _ h199
          have hl200 := hl200.mono S211
          obtain ⟨y201, e220, r221⟩ := RL.got hl200 hi210
          rw [drop_at e220] at hL203
          have hk := hLs204 _ _ _ hL203
          obtain rfl := R.int_ r221
          refine ⟨_, rfl, _, rfl, _, _, R.int, R.int, _, rfl, ?_⟩
          refine iteD (fun q222 => ?_) (fun q222 => ?_)
          · have hk := wp_if hk q222
            refine ⟨_, rfl, _, rfl, _, rfl, (by show 2 ≤ sizeLine; decide), fun p223 hp224 => ?_⟩
            obtain ⟨F225, O226, S227, h228⟩ := O219.putE hp224 (.tup [V.int y201, V.int y174.1])
            have f_near := f_near.mono S227
            have f_branches := f_branches.mono S227
            have h5 := S227 _ _ h5
            have hl6 := hl6.mono S227
            have h82 := h82.mono S227
            have h86 := S227 _ _ h86
            have hl87 := hl87.mono S227
            have hl92 := hl92.mono S227
            have h102 := S227 _ _ h102
            have hl103 := hl103.mono S227
            have S161 := S161.trans S227
            have r178 := r178.mono S227
            have h181 := S227 _ _ h181
            have h189 := S227 _ _ h189
            have hl190 := hl190.mono S227
            have r195 := r195.mono S227
            have h199 := S227 _ _ h199
            have hl200 := hl200.mono S227
            have hl215 := hl215.mono S227
            have hl216 := hl216.mono S227
            have S211 := S211.trans S227
            have h229 : R (a := (Int × Int)) F225 (.ref p223) (y201, y174.1) := R.t2 h228 R.int R.int
            obtain ⟨p235, v238, v239, e236, h237, r240, r241⟩ := R.t2_ h229
            cases e236
            obtain rfl := R.int_ r240
            obtain rfl := R.int_ r241
            obtain ⟨y230, e231, hk⟩ := wp_opt hk
            obtain ⟨w232, e233, r234⟩ := RD.some hl215 (k := ((y201, y174.1).1, (y201, y174.1).2)) e231
            obtain rfl := R.int_ r234
            obtain ⟨c242, hk⟩ := wp_putD hk
            refine ⟨_, _, rfl, (dget_T (O226.at 1 rfl) (O226.s _ _ h237) e233), _, _, rfl, rfl, _, (dput_T (v := V.int (y230 - (1 : Int))) (O226.at 1 rfl) (O226.s _ _ h237) (by rw [RD.len hl215]; exact c242)), ?_⟩
            have O244 := O226.set 1 (.dT (putK w213 (DK.kk ((y201, y174.1).1, (y201, y174.1).2)) (V.int (y230 - (1 : Int))))) rfl
            have hl245 : RD (κ := (Int × Int)) (β := Int) F225 (putK w213 (DK.kk ((y201, y174.1).1, (y201, y174.1).2)) (V.int (y230 - (1 : Int)))) (dPut st212.1 ((y201, y174.1).1, (y201, y174.1).2) (y230 - (1 : Int))) := RD.put hl215 ((y201, y174.1).1, (y201, y174.1).2) R.int
            refine ⟨_, rfl, _, rfl, _, rfl, (by show 2 ≤ sizeLine; decide), fun p246 hp247 => ?_⟩
            obtain ⟨F248, O249, S250, h251⟩ := O244.putE hp247 (.tup [V.int y201, V.int y174.1])
            have f_near := f_near.mono S250
            have f_branches := f_branches.mono S250
            have h5 := S250 _ _ h5
            have hl6 := hl6.mono S250
            have h82 := h82.mono S250
            have h86 := S250 _ _ h86
            have hl87 := hl87.mono S250
            have hl92 := hl92.mono S250
            have h102 := S250 _ _ h102
            have hl103 := hl103.mono S250
            have S161 := S161.trans S250
            have r178 := r178.mono S250
            have h181 := S250 _ _ h181
            have h189 := S250 _ _ h189
            have hl190 := hl190.mono S250
            have r195 := r195.mono S250
            have h199 := S250 _ _ h199
            have hl200 := hl200.mono S250
            have hl216 := hl216.mono S250
            have S211 := S211.trans S250
            have h229 := h229.mono S250
            have h237 := S250 _ _ h237
            have hl245 := hl245.mono S250
            have h252 : R (a := (Int × Int)) F248 (.ref p246) (y201, y174.1) := R.t2 h251 R.int R.int
            obtain ⟨p258, v261, v262, e259, h260, r263, r264⟩ := R.t2_ h252
            cases e259
            obtain rfl := R.int_ r263
            obtain rfl := R.int_ r264
            obtain ⟨y253, e254, hk⟩ := wp_opt hk
            obtain ⟨w255, e256, r257⟩ := RD.some hl245 (k := ((y201, y174.1).1, (y201, y174.1).2)) e254
            obtain rfl := R.int_ r257
            refine ⟨_, _, rfl, (dget_T (O249.at 1 rfl) (O249.s _ _ h260) e256), _, _, R.int, R.int, _, rfl, ?_⟩
            refine iteD (fun q265 => ?_) (fun q265 => ?_)
            · have hk := wp_if hk q265
              refine ⟨_, rfl, (.inl ⟨rfl, _, SqL.of (O249.at 0 rfl)⟩), _, rfl, _, rfl, (by show 2 ≤ sizeLine; decide), fun p266 hp267 => ?_⟩
              obtain ⟨F268, O269, S270, h271⟩ := O249.putE hp267 (.tup [V.int y201, V.int y174.1])
              have f_near := f_near.mono S270
              have f_branches := f_branches.mono S270
              have h5 := S270 _ _ h5
              have hl6 := hl6.mono S270
              have h82 := h82.mono S270
              have h86 := S270 _ _ h86
              have hl87 := hl87.mono S270
              have hl92 := hl92.mono S270
              have h102 := S270 _ _ h102
              have hl103 := hl103.mono S270
              have S161 := S161.trans S270
              have r178 := r178.mono S270
              have h181 := S270 _ _ h181
              have h189 := S270 _ _ h189
              have hl190 := hl190.mono S270
              have r195 := r195.mono S270
              have h199 := S270 _ _ h199
              have hl200 := hl200.mono S270
              have hl216 := hl216.mono S270
              have S211 := S211.trans S270
              have h229 := h229.mono S270
              have h237 := S270 _ _ h237
              have hl245 := hl245.mono S270
              have h252 := h252.mono S270
              have h260 := S270 _ _ h260
              have h272 : R (a := (Int × Int)) F268 (.ref p266) (y201, y174.1) := R.t2 h271 R.int R.int
              obtain ⟨c273, hk⟩ := wp_appL hk
              refine ⟨_, _, _, rfl, rfl, (O269.at 0 rfl), (by rw [hl216.len]; exact c273), ?_⟩
              have O275 := O269.set 0 (.lst (w214 ++ [V.ref p266])) rfl
              have hl276 : RL (a := (Int × Int)) F268 (w214 ++ [V.ref p266]) (st212.2 ++ [(y201, y174.1)]) := RL.snoc hl216 h272
              exact ⟨F268, ((dPut st212.1 ((y201, y174.1).1, (y201, y174.1).2) (y230 - (1 : Int))), (st212.2 ++ [(y201, y174.1)])), (putK w213 (DK.kk ((y201, y174.1).1, (y201, y174.1).2)) (V.int (y230 - (1 : Int)))), (w214 ++ [V.ref p266]), some (V.int y201), rfl, S211, O275, hl245, hl276, hk⟩
            · have hk := wp_el hk q265
              exact ⟨F248, ((dPut st212.1 ((y201, y174.1).1, (y201, y174.1).2) (y230 - (1 : Int))), st212.2), (putK w213 (DK.kk ((y201, y174.1).1, (y201, y174.1).2)) (V.int (y230 - (1 : Int)))), w214, some (V.int y201), rfl, S211, O249, hl245, hl216, hk⟩
          · have hk := wp_el hk q222
            exact ⟨F218, (st212.1, st212.2), w213, w214, some (V.int y201), rfl, S211, O219, hl215, hl216, hk⟩
        rintro sg277 H278 ⟨F287, st280, w282, w283, t286, rfl, S279, O288, hl284, hl285, hL281⟩
        rw [drop_end hl200.len] at hL281
        have hk := hLd205 _ hL281
        have f_near := f_near.mono S279
        have f_branches := f_branches.mono S279
        have h5 := S279 _ _ h5
        have hl6 := hl6.mono S279
        have h82 := h82.mono S279
        have h86 := S279 _ _ h86
        have hl87 := hl87.mono S279
        have hl92 := hl92.mono S279
        have h102 := S279 _ _ h102
        have hl103 := hl103.mono S279
        have S161 := S161.trans S279
        have r178 := r178.mono S279
        have h181 := S279 _ _ h181
        have h189 := S279 _ _ h189
        have hl190 := hl190.mono S279
        have r195 := r195.mono S279
        have h199 := S279 _ _ h199
        have hl200 := hl200.mono S279
        refine ⟨_, rfl, _, _, rfl, rfl, ?_⟩
        obtain ⟨m_, hm_, hk⟩ := hk
        exact ⟨m_, hm_, F287, ((st162.1 + (1 : Int)), st280.1, st280.2), w282, w283, some (V.int y174.1), some (V.int y174.2), t286, rfl, S161, O288, hl284, hl285, hk⟩
      · have hk := wp_el hk q173
        exact hex157 _ _ ⟨F171, (st162.1, st162.2.1, st162.2.2), w164, w165, t168, t169, t170, rfl, S161, O172, hl166, hl167, hk⟩
    rintro sg289 H290 ⟨F301, st292, w294, w295, t298, t299, t300, rfl, S291, O302, hl296, hl297, hL293⟩
    have hk := hLd156 _ hL293
    have f_near := f_near.mono S291
    have f_branches := f_branches.mono S291
    have h5 := S291 _ _ h5
    have hl6 := hl6.mono S291
    have h82 := h82.mono S291
    have h86 := S291 _ _ h86
    have hl87 := hl87.mono S291
    have hl92 := hl92.mono S291
    have h102 := S291 _ _ h102
    have hl103 := hl103.mono S291
    refine ⟨_, rfl, ?_⟩
    exact hk _ _  O302.g  _ _ z140 (O302.cf _ (List.mem_of_getElem? (i := 0) rfl)) (O302.at 0 rfl) hl297
abbrev s_rows_known : Stmt := top 21
theorem sc_rows_known : FnScope ["tree", "rule", "near", "lengths", "rows", "a", "b", "more", "c"] ["tree", "rule"] (defScope s_rows_known) := ⟨rfl, rfl, rfl, by decide +kernel, rfl, by decide +kernel, by decide +kernel⟩
def m_rows_known (x_tree : ((List Int) × (List (T3 Int Int Int)))) (x_rule : (T4 (List Sm) (List Sm) (List Sm) Sm)) : M ((List ((Int × Int) × (List Int)))) :=
m_tied_places (x_tree.1.length : Int) x_tree.2 >>= fun r13 =>
m_lengths_of x_tree >>= fun r32 =>
m_every_branch x_tree >>= fun r46 =>
m_order_of r13 r46 >>= fun r65 =>
loopN (fun (y89 : (Int × Int)) (st100 : (List ((Int × Int) × (List Int)))) =>
opt (atI r13 y89.2) >>= fun y122 =>
compS (fun (y132 : Int) (st149 : Unit) =>
if y132 ≠ y89.1 then (
opt (dGet st100 (y89.2, y132)) >>= fun y163 =>
.ok (some y163, ()))
else (
.ok (none, ()))) y122 () >>= fun q186 =>
m_row_with x_tree x_rule y89.2 q186.1 >>= fun r192 =>
opt (atI x_tree.1 y89.2) >>= fun y205 =>
opt (dGet r32 (y89.1, y89.2)) >>= fun y222 =>
m_over_tie x_rule r192 y205 y222 >>= fun r234 =>
putD st100 ((y89.1, y89.2).1, (y89.1, y89.2).2) r234 >>= fun z268 =>
.ok z268) r65 ([] : (List ((Int × Int) × (List Int)))) >>= fun st274 =>
.ok st274
def sp_rows_known (mg : Str → Option Value) : Sp := fun vs H Q E => ∃ (F : Hp) (v_tree : V) (x_tree : ((List Int) × (List (T3 Int Int Int)))) (v_rule : V) (x_rule : (T4 (List Sm) (List Sm) (List Sm) Sm)), vs = [v_tree, v_rule] ∧ Pre F [] H ∧ R (a := ((List Int) × (List (T3 Int Int Int)))) F v_tree x_tree ∧ R (a := (T4 (List Sm) (List Sm) (List Sm) Sm)) F v_rule x_rule ∧
  wp (m_rows_known x_tree x_rule) (fun r => ∀ (F' H' : Hp), Gr [] F H F' H' → ∀ v : V, RDv (κ := (Int × Int)) (β := (List Int)) F' v r → Q v H')
  (fun n => ∀ (C : Addr) (H' : Hp), mg (Str.ofString n) = some (.ref C) → Kp [] H H' → E (.ref C) none H')
set_option maxHeartbeats 2000000 in
theorem ok_rows_known (nb : Nb mg) (C_every_branch : Ca P w K mg base "every_branch" 2 ["tree"] (sp_every_branch mg)) (C_lengths_of : Ca P w K mg base "lengths_of" 1 ["tree"] (sp_lengths_of mg)) (C_order_of : Ca P w K mg base "order_of" 1 ["near", "branches"] (sp_order_of mg)) (C_over_tie : Ca P w K mg base "over_tie" 14 ["rule", "more", "own", "tie"] (sp_over_tie mg)) (C_row_with : Ca P w K mg base "row_with" 15 ["tree", "rule", "place", "near"] (sp_row_with mg)) (C_tied_places : Ca P w K mg base "tied_places" 1 ["many", "ties"] (sp_tied_places mg)) (D : Df K mg "rows_known" "rows_known" s_rows_known ["tree", "rule"]) : Ca P w K mg base "rows_known" 16 ["tree", "rule"] (sp_rows_known mg) := by
  obtain ⟨fa_every_branch, fd_every_branch, G_every_branch, M_every_branch, K_every_branch, B_every_branch⟩ := C_every_branch.ex
  obtain ⟨fa_lengths_of, fd_lengths_of, G_lengths_of, M_lengths_of, K_lengths_of, B_lengths_of⟩ := C_lengths_of.ex
  obtain ⟨fa_order_of, fd_order_of, G_order_of, M_order_of, K_order_of, B_order_of⟩ := C_order_of.ex
  obtain ⟨fa_over_tie, fd_over_tie, G_over_tie, M_over_tie, K_over_tie, B_over_tie⟩ := C_over_tie.ex
  obtain ⟨fa_row_with, fd_row_with, G_row_with, M_row_with, K_row_with, B_row_with⟩ := C_row_with.ex
  obtain ⟨fa_tied_places, fd_tied_places, G_tied_places, M_tied_places, K_tied_places, B_tied_places⟩ := C_tied_places.ex
  refine Ca.mk' D sc_rows_known (fun vs H Q E h => ?_) (fun q_ f_ cdv A outer s H vs Q E hr h => ?_)
  · obtain ⟨F, _, _, _, _, rfl, _⟩ := h
    rfl
  · obtain ⟨F, v_tree, x_tree, v_rule, x_rule, rfl, P0, f_tree, f_rule, hk⟩ := h
    have nd := sc_rows_known.nd
    have hu64 := hr.units
    have hu128 := hu128_of hr
    have O := P0.start
    refine ⟨_, (pss_cons (ps_set (i := 2) nd rfl (Or.inl rfl) (pe_call G_tied_places (hr.mono (by decide)) rfl M_tied_places K_tied_places B_tied_places .nil (passes_call (takes_of rfl rfl rfl rfl) fun _ _ _ _ h => h) (pa_cons (pe_callB call_lenT (by rfl) nb.b_len PySem.boot_len (pa_cons (pe_ix (ixTupK (K := K) rfl) (pv 0) pe_int (fun _ _ => rfl)) pa_nil)) (pa_cons (pe_ix (ixTupK (K := K) rfl) (pv 0) pe_int (fun _ _ => rfl)) pa_nil))))
  (pss_cons (ps_set (i := 3) nd rfl (Or.inl rfl) (pe_call G_lengths_of (hr.mono (by decide)) rfl M_lengths_of K_lengths_of B_lengths_of .nil (passes_call (takes_of rfl rfl rfl rfl) fun _ _ _ _ h => h) (pa_cons (pv 0) pa_nil)))
  (pss_cons (ps_set (i := 4) nd rfl (Or.inr rfl) pe_dnewT)
  (pss_cons (ps_for (passes_of rfl) rfl (piListK (K := K) rfl (pe_call G_order_of (hr.mono (by decide)) rfl M_order_of K_order_of B_order_of .nil (passes_call (takes_of rfl rfl rfl rfl) fun _ _ _ _ h => h) (pa_cons (pv 2) (pa_cons (pe_call G_every_branch (hr.mono (by decide)) rfl M_every_branch K_every_branch B_every_branch .nil (passes_call (takes_of rfl rfl rfl rfl) fun _ _ _ _ h => h) (pa_cons (pv 0) pa_nil)) pa_nil)))) (pg_tup rfl (pgs_cons (pg_name (i := 5) nd rfl (Or.inr rfl)) (pgs_cons (pg_name (i := 6) nd rfl (Or.inr rfl)) pgs_nil))) (pss_cons (ps_set (i := 7) nd rfl (Or.inl rfl) (pe_call G_row_with (hr.mono (by decide)) rfl M_row_with K_row_with B_row_with .nil (passes_call (takes_of rfl rfl rfl rfl) fun _ _ _ _ h => h) (pa_cons (pv 0) (pa_cons (pv 1) (pa_cons (pv 6) (pa_cons (pe_lc (own := [("c", 8)]) (g := gName 8) (tt := _) rfl nd (piListK (K := K) rfl (pe_ix (ixListK (K := K) rfl) (pv 2) (pv 6) (fun _ _ => rfl))) (blkOk_by (own := [("c", 8)]) (N := ["tree", "rule", "near", "lengths", "rows", "a", "b", "more", "c"]) (sc := defScope s_rows_known) (by decide +kernel)) (fun _ _ _ _ _ => (pg_name (i := 8) nd rfl (Or.inl rfl))) (fun _ _ _ _ _ => (pts_one (pt_cmpR (op_neT Int hu64) (pv 8) (pv 5) (nomark _)))) (fun _ _ _ _ _ => (pe_dget (u1_of hu64) (pv 4) (pe_tup (pa_cons (pv 6) (pa_cons (pv 8) pa_nil))) (fun _ _ => rfl)))) pa_nil))))))
  (pss_one (ps_dput (u1_of hu64) (pv 4) (pe_tup (pa_cons (pv 5) (pa_cons (pv 6) pa_nil))) (pe_call G_over_tie (hr.mono (by decide)) rfl M_over_tie K_over_tie B_over_tie .nil (passes_call (takes_of rfl rfl rfl rfl) fun _ _ _ _ h => h) (pa_cons (pv 1) (pa_cons (pv 7) (pa_cons (pe_ix (ixListK (K := K) rfl) (pe_ix (ixTupK (K := K) rfl) (pv 0) pe_int (fun _ _ => rfl)) (pv 6) (fun _ _ => rfl)) (pa_cons (pe_dget (u1_of hu64) (pv 3) (pe_tup (pa_cons (pv 5) (pa_cons (pv 6) pa_nil))) (fun _ _ => rfl)) pa_nil))))) rfl))))
  (pss_one (ps_ret (pv 4))))))), ?_⟩
    obtain ⟨p1, v4, v5, e2, h3, r6, r7⟩ := R.t2_ f_tree
    cases e2
    obtain ⟨p8, w9, e10, h11, hl12⟩ := R.lst_ r6
    cases e10
    refine ⟨_, rfl, _, _, _, _, rfl, rfl, (SqTF O.s h3), rfl, _, _, _, rfl, (.inl (O.s _ _ h11)), hl12.len, _, rfl, _, _, _, _, rfl, rfl, (SqTF O.s h3), rfl, _, _, _, _, rfl, O.pre0, r7, wp_call hk (fun r13 er14 hk F15 H16 g17 p18 w19 hn20 hf21 h22 hl23 => ?_) (fun n hn C H1 hC kp => hn C H1 hC (O.kp0 kp))⟩
    have O24 := O.call0 g17
    have S_ := g17.f
    have f_tree := f_tree.mono S_
    have f_rule := f_rule.mono S_
    have h3 := S_ _ _ h3
    have r6 := r6.mono S_
    have r7 := r7.mono S_
    have h11 := S_ _ _ h11
    have hl12 := hl12.mono S_
    have O25 := O.got O24 rfl hn20 hf21 h22
    have z26 := O.was hn20
    obtain ⟨F27, O28, S29, h30⟩ := O25.frzE 0 rfl z26
    have f_tree := f_tree.mono S29
    have f_rule := f_rule.mono S29
    have h3 := S29 _ _ h3
    have r6 := r6.mono S29
    have r7 := r7.mono S29
    have h11 := S29 _ _ h11
    have hl12 := hl12.mono S29
    have hl23 := hl23.mono S29
    have h31 := R.lst (a := (List Int)) h30 hl23
    refine ⟨_, rfl, _, _, _, rfl, O28.pre0, f_tree, wp_call hk (fun r32 er33 hk F34 H35 g36 v37 r38 => ?_) (fun n hn C H1 hC kp => hn C H1 hC (O28.kp0 kp))⟩
    have O39 := O28.call0 g36
    have S_ := g36.f
    have f_tree := f_tree.mono S_
    have f_rule := f_rule.mono S_
    have h3 := S_ _ _ h3
    have r6 := r6.mono S_
    have r7 := r7.mono S_
    have h11 := S_ _ _ h11
    have hl12 := hl12.mono S_
    have h31 := h31.mono S_
    refine fun p41 hp42 => ?_
    have hl44 : RD (κ := (Int × Int)) (β := (List Int)) F34 [] ([] : (List ((Int × Int) × (List Int)))) := RD.nil
    have z45 := O39.was hp42
    have O43 := O39.new (o := .dT []) hp42
    refine ⟨_, rfl, _, rfl, _, _, _, rfl, O43.pre0, f_tree, wp_call hk (fun r46 er47 hk F48 H49 g50 p51 w52 hn53 hf54 h55 hl56 => ?_) (fun n hn C H1 hC kp => hn C H1 hC (O43.kp0 kp))⟩
    have O57 := O43.call0 g50
    have S_ := g50.f
    have f_tree := f_tree.mono S_
    have f_rule := f_rule.mono S_
    have h3 := S_ _ _ h3
    have r6 := r6.mono S_
    have r7 := r7.mono S_
    have h11 := S_ _ _ h11
    have hl12 := hl12.mono S_
    have h31 := h31.mono S_
    have r38 := r38.mono S_
    have hl44 := hl44.mono S_
    have O58 := O43.got O57 rfl hn53 hf54 h55
    have z59 := O43.was hn53
    obtain ⟨F60, O61, S62, h63⟩ := O58.frzE 0 rfl z59
    have f_tree := f_tree.mono S62
    have f_rule := f_rule.mono S62
    have h3 := S62 _ _ h3
    have r6 := r6.mono S62
    have r7 := r7.mono S62
    have h11 := S62 _ _ h11
    have hl12 := hl12.mono S62
    have h31 := h31.mono S62
    have r38 := r38.mono S62
    have hl44 := hl44.mono S62
    have hl56 := hl56.mono S62
    have h64 := R.lst (a := (Int × Int)) h63 hl56
    refine ⟨_, _, _, _, _, rfl, O61.pre0, h31, h64, wp_call hk (fun r65 er66 hk F67 H68 g69 p70 w71 hn72 hf73 h74 hl75 => ?_) (fun n hn C H1 hC kp => hn C H1 hC (O61.kp0 kp))⟩
    have O76 := O61.call0 g69
    have S_ := g69.f
    have f_tree := f_tree.mono S_
    have f_rule := f_rule.mono S_
    have h3 := S_ _ _ h3
    have r6 := r6.mono S_
    have r7 := r7.mono S_
    have h11 := S_ _ _ h11
    have hl12 := hl12.mono S_
    have h31 := h31.mono S_
    have r38 := r38.mono S_
    have hl44 := hl44.mono S_
    have h64 := h64.mono S_
    have O77 := O61.got O76 rfl hn72 hf73 h74
    have z78 := O61.was hn72
    obtain ⟨F79, O80, S81, h82⟩ := O77.frzE 0 rfl z78
    have f_tree := f_tree.mono S81
    have f_rule := f_rule.mono S81
    have h3 := S81 _ _ h3
    have r6 := r6.mono S81
    have r7 := r7.mono S81
    have h11 := S81 _ _ h11
    have hl12 := hl12.mono S81
    have h31 := h31.mono S81
    have r38 := r38.mono S81
    have hl44 := hl44.mono S81
    have h64 := h64.mono S81
    have hl75 := hl75.mono S81
    have h83 := R.lst (a := (Int × Int)) h82 hl75
    obtain ⟨p84, w85, e86, h87, hl88⟩ := R.lst_ h83
    cases e86
    obtain ⟨L90, hL91, hLs92, hLd93⟩ := loopN_L hk
    refine ⟨_, rfl, ⟨_, (SqLF O80.s h87)⟩, ?_⟩
    refine for_list (K := K) (xs := w85) (fun i σ H => ∃ (F_ : Hp) (st : (List ((Int × Int) × (List Int)))) (w_0 : (List (List Key × V))) (t_0 : Option V) (t_1 : Option V) (t_2 : Option V), σ = [some (V.ref p1), some v_rule, some (V.ref p18), some v37, some (V.ref p41), t_0, t_1, t_2, none] ∧ Same F79 F_ ∧ Ow _ F_ [(p41, .dT w_0)] H ∧ RD (κ := (Int × Int)) (β := (List Int)) F_ w_0 st ∧ L90 (List.drop i r65) st) ⟨F79, ([] : (List ((Int × Int) × (List Int)))), [], none, none, none, rfl, Same.refl _, O80, hl44, hL91⟩ (fun i_ σ_ H_ _ hp_ => ?_) ?_ ?_
    · obtain ⟨_, _, _, _, _, _, _, hS_, hO_, _⟩ := hp_
      exact SqLF hO_.s (hS_ _ _ h87)
    · rintro i94 x95 sg96 H97 hi98 ⟨F106, st100, w101, t103, t104, t105, rfl, S99, O107, hl102, hL91⟩
      have f_tree := f_tree.mono S99
      have f_rule := f_rule.mono S99
      have h3 := S99 _ _ h3
      have r6 := r6.mono S99
      have r7 := r7.mono S99
      have h11 := S99 _ _ h11
      have hl12 := hl12.mono S99
      have h31 := h31.mono S99
      have r38 := r38.mono S99
      have h64 := h64.mono S99
      have h83 := h83.mono S99
      have h87 := S99 _ _ h87
      have hl88 := hl88.mono S99
      obtain ⟨y89, e108, r109⟩ := RL.got hl88 hi98
      rw [drop_at e108] at hL91
      have hk := hLs92 _ _ _ hL91
      obtain ⟨p110, v113, v114, e111, h112, r115, r116⟩ := R.t2_ r109
      cases e111
      obtain rfl := R.int_ r115
      obtain rfl := R.int_ r116
      obtain ⟨p117, w118, e119, h120, hl121⟩ := R.lst_ h31
      cases e119
      obtain ⟨y122, e123, hk⟩ := wp_opt hk
      obtain ⟨w124, e125, r126⟩ := hl121.atI e123
      obtain ⟨p127, w128, e129, h130, hl131⟩ := R.lst_ r126
      cases e129
      obtain ⟨c137, L133, hL134, hLs135, hLd136⟩ := compS_L hk
      refine ⟨_, _, rfl, (SqTF O107.s h112), rfl, _, _, rfl, _, _, rfl, rfl, _, rfl, _, rfl, _, rfl, _, rfl, _, rfl, _, _, _, _, rfl, rfl, (SqLF O107.s h120), e125, _, rfl, ⟨_, (SqLF O107.s h130)⟩, fun p138 hp139 => ?_⟩
      have z175 := O107.was hp139
      refine lc_list (K := K) (xs := w128) (fun i H => ∃ (F_ : Hp) (st : Unit) (acc : List (List Int)) (wa : List V), Same F106 F_ ∧ Ow _ F_ [(p138, .lst wa), (p41, .dT w101)] H ∧ RL F_ wa acc ∧ wa.length ≤ i ∧ L133 (List.drop i y122) acc st) ⟨F106, (), [], [], Same.refl _, O107.new hp139, RL.nil, Nat.zero_le _, hL134⟩ (fun i_ H_ _ hp_ => ?_) ?_ ?_
      · obtain ⟨_, _, _, _, hS_, hO_, _⟩ := hp_
        exact SqLF hO_.s (hS_ _ _ h130)
      · rintro i140 x141 H142 hi143 ⟨F148, st149, acc145, wa146, S150, O152, hl151, la147, hL134⟩
        have f_tree := f_tree.mono S150
        have f_rule := f_rule.mono S150
        have h3 := S150 _ _ h3
        have r6 := r6.mono S150
        have r7 := r7.mono S150
        have h11 := S150 _ _ h11
        have hl12 := hl12.mono S150
        have h31 := h31.mono S150
        have r38 := r38.mono S150
        have h64 := h64.mono S150
        have h83 := h83.mono S150
        have h87 := S150 _ _ h87
        have hl88 := hl88.mono S150
        have hl102 := hl102.mono S150
        have S99 := S99.trans S150
        have r109 := r109.mono S150
        have h112 := S150 _ _ h112
        have h120 := S150 _ _ h120
        have hl121 := hl121.mono S150
        have r126 := r126.mono S150
        have h130 := S150 _ _ h130
        have hl131 := hl131.mono S150
        obtain ⟨y132, e153, r154⟩ := RL.got hl131 hi143
        rw [drop_at e153] at hL134
        have hk := hLs135 _ _ _ _ hL134
        obtain rfl := R.int_ r154
        refine ⟨rfl, _, rfl, _, rfl, _, _, R.int, R.int, _, rfl, ?_⟩
        refine iteD (fun q155 => ?_) (fun q155 => ?_)
        · have hk := wp_if hk q155
          refine ⟨_, rfl, _, rfl, _, rfl, (by show 2 ≤ sizeLine; decide), fun p156 hp157 => ?_⟩
          obtain ⟨F158, O159, S160, h161⟩ := O152.putE hp157 (.tup [V.int y89.2, V.int y132])
          have f_tree := f_tree.mono S160
          have f_rule := f_rule.mono S160
          have h3 := S160 _ _ h3
          have r6 := r6.mono S160
          have r7 := r7.mono S160
          have h11 := S160 _ _ h11
          have hl12 := hl12.mono S160
          have h31 := h31.mono S160
          have r38 := r38.mono S160
          have h64 := h64.mono S160
          have h83 := h83.mono S160
          have h87 := S160 _ _ h87
          have hl88 := hl88.mono S160
          have hl102 := hl102.mono S160
          have S99 := S99.trans S160
          have r109 := r109.mono S160
          have h112 := S160 _ _ h112
          have h120 := S160 _ _ h120
          have hl121 := hl121.mono S160
          have r126 := r126.mono S160
          have h130 := S160 _ _ h130
          have hl131 := hl131.mono S160
          have S150 := S150.trans S160
          have hl151 := hl151.mono S160
          have h162 : R (a := (Int × Int)) F158 (.ref p156) (y89.2, y132) := R.t2 h161 R.int R.int
          obtain ⟨p168, v171, v172, e169, h170, r173, r174⟩ := R.t2_ h162
          cases e169
          obtain rfl := R.int_ r173
          obtain rfl := R.int_ r174
          obtain ⟨y163, e164, hk⟩ := wp_opt hk
          obtain ⟨w165, e166, r167⟩ := RD.some hl102 (k := ((y89.2, y132).1, (y89.2, y132).2)) e164
          refine ⟨_, _, rfl, (dget_T (O159.at 1 rfl) (O159.s _ _ h170) e166), _, (O159.at 0 rfl), (comp_len la147 hi143 hl131.len c137), ?_⟩
          exact ⟨F158, (), acc145 ++ [y163], wa146 ++ [w165], S150, O159.set 0 (.lst (wa146 ++ [w165])) rfl, RL.snoc hl151 r167, by rw [List.length_append]; exact Nat.succ_le_succ la147, hk⟩
        · have hk := wp_el hk q155
          exact ⟨F148, (), acc145, wa146, S150, O152, hl151, Nat.le_succ_of_le la147, hk⟩
      rintro H176 ⟨F177, st178, acc179, wa180, S181, O182, hl183, la184, hL185⟩
      rw [drop_end hl131.len] at hL185
      have hk := hLd136 _ _ hL185
      have f_tree := f_tree.mono S181
      have f_rule := f_rule.mono S181
      have h3 := S181 _ _ h3
      have r6 := r6.mono S181
      have r7 := r7.mono S181
      have h11 := S181 _ _ h11
      have hl12 := hl12.mono S181
      have h31 := h31.mono S181
      have r38 := r38.mono S181
      have h64 := h64.mono S181
      have h83 := h83.mono S181
      have h87 := S181 _ _ h87
      have hl88 := hl88.mono S181
      have hl102 := hl102.mono S181
      have S99 := S99.trans S181
      have r109 := r109.mono S181
      have h112 := S181 _ _ h112
      have h120 := S181 _ _ h120
      have hl121 := hl121.mono S181
      have r126 := r126.mono S181
      have h130 := S181 _ _ h130
      have hl131 := hl131.mono S181
      obtain ⟨F187, O188, S189, h190⟩ := O182.frzE 0 rfl z175
      have f_tree := f_tree.mono S189
      have f_rule := f_rule.mono S189
      have h3 := S189 _ _ h3
      have r6 := r6.mono S189
      have r7 := r7.mono S189
      have h11 := S189 _ _ h11
      have hl12 := hl12.mono S189
      have h31 := h31.mono S189
      have r38 := r38.mono S189
      have h64 := h64.mono S189
      have h83 := h83.mono S189
      have h87 := S189 _ _ h87
      have hl88 := hl88.mono S189
      have hl102 := hl102.mono S189
      have S99 := S99.trans S189
      have r109 := r109.mono S189
      have h112 := S189 _ _ h112
      have h120 := S189 _ _ h120
      have hl121 := hl121.mono S189
      have r126 := r126.mono S189
      have h130 := S189 _ _ h130
      have hl131 := hl131.mono S189
      have hl183 := hl183.mono S189
      have h191 := R.lst (a := (List Int)) h190 hl183
      refine ⟨_, _, _, _, _, _, _, _, rfl, O188.pre0, f_tree, f_rule, h191, wp_call hk (fun r192 er193 hk F194 H195 g196 v197 r198 => ?_) (fun n hn C H1 hC kp => hn C H1 hC (O188.kp0 kp))⟩
      have O199 := O188.call0 g196
      have S_ := g196.f
      have f_tree := f_tree.mono S_
      have f_rule := f_rule.mono S_
      have h3 := S_ _ _ h3
      have r6 := r6.mono S_
      have r7 := r7.mono S_
      have h11 := S_ _ _ h11
      have hl12 := hl12.mono S_
      have h31 := h31.mono S_
      have r38 := r38.mono S_
      have h64 := h64.mono S_
      have h83 := h83.mono S_
      have h87 := S_ _ _ h87
      have hl88 := hl88.mono S_
      have hl102 := hl102.mono S_
      have S99 := S99.trans S_
      have r109 := r109.mono S_
      have h112 := S_ _ _ h112
      have h120 := S_ _ _ h120
      have hl121 := hl121.mono S_
      have r126 := r126.mono S_
      have h130 := S_ _ _ h130
      have hl131 := hl131.mono S_
      have h191 := h191.mono S_
      obtain ⟨p200, w201, e202, h203, hl204⟩ := R.lst_ r6
      cases e202
      obtain ⟨y205, e206, hk⟩ := wp_opt hk
      obtain ⟨w207, e208, r209⟩ := hl204.atI e206
      obtain rfl := R.int_ r209
      refine ⟨_, rfl, _, rfl, _, rfl, _, _, _, _, rfl, rfl, (SqTF O199.s h3), rfl, _, rfl, _, _, _, _, rfl, rfl, (SqLF O199.s h203), e208, _, rfl, _, rfl, _, rfl, (by show 2 ≤ sizeLine; decide), fun p210 hp211 => ?_⟩
      obtain ⟨F212, O213, S214, h215⟩ := O199.putE hp211 (.tup [V.int y89.1, V.int y89.2])
      have f_tree := f_tree.mono S214
      have f_rule := f_rule.mono S214
      have h3 := S214 _ _ h3
      have r6 := r6.mono S214
      have r7 := r7.mono S214
      have h11 := S214 _ _ h11
      have hl12 := hl12.mono S214
      have h31 := h31.mono S214
      have r38 := r38.mono S214
      have h64 := h64.mono S214
      have h83 := h83.mono S214
      have h87 := S214 _ _ h87
      have hl88 := hl88.mono S214
      have hl102 := hl102.mono S214
      have S99 := S99.trans S214
      have r109 := r109.mono S214
      have h112 := S214 _ _ h112
      have h120 := S214 _ _ h120
      have hl121 := hl121.mono S214
      have r126 := r126.mono S214
      have h130 := S214 _ _ h130
      have hl131 := hl131.mono S214
      have h191 := h191.mono S214
      have r198 := r198.mono S214
      have h203 := S214 _ _ h203
      have hl204 := hl204.mono S214
      have h216 : R (a := (Int × Int)) F212 (.ref p210) (y89.1, y89.2) := R.t2 h215 R.int R.int
      obtain ⟨p217, w218, e219, h220, hl221⟩ := r38
      cases e219
      have h220 : F212 _ = some (.dT w218) := h220
      have r38 := RDv.mk (κ := (Int × Int)) (β := Int) h220 hl221
      obtain ⟨p227, v230, v231, e228, h229, r232, r233⟩ := R.t2_ h216
      cases e228
      obtain rfl := R.int_ r232
      obtain rfl := R.int_ r233
      obtain ⟨y222, e223, hk⟩ := wp_opt hk
      obtain ⟨w224, e225, r226⟩ := RD.some hl221 (k := ((y89.1, y89.2).1, (y89.1, y89.2).2)) e223
      obtain rfl := R.int_ r226
      refine ⟨_, _, rfl, (dget_T (O213.s _ _ h220) (O213.s _ _ h229) e225), _, _, _, _, _, _, _, rfl, O213.pre0, f_rule, r198, wp_call hk (fun r234 er235 hk F236 H237 g238 p239 w240 hn241 hf242 h243 hl244 => ?_) (fun n hn C H1 hC kp => hn C H1 hC (O213.kp0 kp))⟩
      have O245 := O213.call0 g238
      have S_ := g238.f
      have f_tree := f_tree.mono S_
      have f_rule := f_rule.mono S_
      have h3 := S_ _ _ h3
      have r6 := r6.mono S_
      have r7 := r7.mono S_
      have h11 := S_ _ _ h11
      have hl12 := hl12.mono S_
      have h31 := h31.mono S_
      have r38 := r38.mono S_
      have h64 := h64.mono S_
      have h83 := h83.mono S_
      have h87 := S_ _ _ h87
      have hl88 := hl88.mono S_
      have hl102 := hl102.mono S_
      have S99 := S99.trans S_
      have r109 := r109.mono S_
      have h112 := S_ _ _ h112
      have h120 := S_ _ _ h120
      have hl121 := hl121.mono S_
      have r126 := r126.mono S_
      have h130 := S_ _ _ h130
      have hl131 := hl131.mono S_
      have h191 := h191.mono S_
      have r198 := r198.mono S_
      have h203 := S_ _ _ h203
      have hl204 := hl204.mono S_
      have h216 := h216.mono S_
      have h220 := S_ _ _ h220
      have hl221 := hl221.mono S_
      have h229 := S_ _ _ h229
      have O246 := O213.got O245 rfl hn241 hf242 h243
      have z247 := O213.was hn241
      obtain ⟨F248, O249, S250, h251⟩ := O246.frzE 0 rfl z247
      have f_tree := f_tree.mono S250
      have f_rule := f_rule.mono S250
      have h3 := S250 _ _ h3
      have r6 := r6.mono S250
      have r7 := r7.mono S250
      have h11 := S250 _ _ h11
      have hl12 := hl12.mono S250
      have h31 := h31.mono S250
      have r38 := r38.mono S250
      have h64 := h64.mono S250
      have h83 := h83.mono S250
      have h87 := S250 _ _ h87
      have hl88 := hl88.mono S250
      have hl102 := hl102.mono S250
      have S99 := S99.trans S250
      have r109 := r109.mono S250
      have h112 := S250 _ _ h112
      have h120 := S250 _ _ h120
      have hl121 := hl121.mono S250
      have r126 := r126.mono S250
      have h130 := S250 _ _ h130
      have hl131 := hl131.mono S250
      have h191 := h191.mono S250
      have r198 := r198.mono S250
      have h203 := S250 _ _ h203
      have hl204 := hl204.mono S250
      have h216 := h216.mono S250
      have h220 := S250 _ _ h220
      have hl221 := hl221.mono S250
      have h229 := S250 _ _ h229
      have hl244 := hl244.mono S250
      have h252 := R.lst (a := Int) h251 hl244
      refine ⟨_, rfl, _, rfl, _, rfl, (by show 2 ≤ sizeLine; decide), fun p253 hp254 => ?_⟩
      obtain ⟨F255, O256, S257, h258⟩ := O249.putE hp254 (.tup [V.int y89.1, V.int y89.2])
      have f_tree := f_tree.mono S257
      have f_rule := f_rule.mono S257
      have h3 := S257 _ _ h3
      have r6 := r6.mono S257
      have r7 := r7.mono S257
      have h11 := S257 _ _ h11
      have hl12 := hl12.mono S257
      have h31 := h31.mono S257
      have r38 := r38.mono S257
      have h64 := h64.mono S257
      have h83 := h83.mono S257
      have h87 := S257 _ _ h87
      have hl88 := hl88.mono S257
      have hl102 := hl102.mono S257
      have S99 := S99.trans S257
      have r109 := r109.mono S257
      have h112 := S257 _ _ h112
      have h120 := S257 _ _ h120
      have hl121 := hl121.mono S257
      have r126 := r126.mono S257
      have h130 := S257 _ _ h130
      have hl131 := hl131.mono S257
      have h191 := h191.mono S257
      have r198 := r198.mono S257
      have h203 := S257 _ _ h203
      have hl204 := hl204.mono S257
      have h216 := h216.mono S257
      have h220 := S257 _ _ h220
      have hl221 := hl221.mono S257
      have h229 := S257 _ _ h229
      have h252 := h252.mono S257
      have h259 : R (a := (Int × Int)) F255 (.ref p253) (y89.1, y89.2) := R.t2 h258 R.int R.int
      obtain ⟨p260, v263, v264, e261, h262, r265, r266⟩ := R.t2_ h259
      cases e261
      obtain rfl := R.int_ r265
      obtain rfl := R.int_ r266
      obtain ⟨c267, hk⟩ := wp_putD hk
      refine ⟨_, _, rfl, (dput_T (v := (V.ref p239)) (O256.at 0 rfl) (O256.s _ _ h262) (by rw [RD.len hl102]; exact c267)), ?_⟩
      have O269 := O256.set 0 (.dT (putK w101 (DK.kk ((y89.1, y89.2).1, (y89.1, y89.2).2)) (V.ref p239))) rfl
      have hl270 : RD (κ := (Int × Int)) (β := (List Int)) F255 (putK w101 (DK.kk ((y89.1, y89.2).1, (y89.1, y89.2).2)) (V.ref p239)) (dPut st100 ((y89.1, y89.2).1, (y89.1, y89.2).2) r234) := RD.put hl102 ((y89.1, y89.2).1, (y89.1, y89.2).2) h252
      exact ⟨F255, (dPut st100 ((y89.1, y89.2).1, (y89.1, y89.2).2) r234), (putK w101 (DK.kk ((y89.1, y89.2).1, (y89.1, y89.2).2)) (V.ref p239)), some (V.int y89.1), some (V.int y89.2), some v197, rfl, S99, O269, hl270, hk⟩
    rintro sg271 H272 ⟨F281, st274, w276, t278, t279, t280, rfl, S273, O282, hl277, hL275⟩
    rw [drop_end hl88.len] at hL275
    have hk := hLd93 _ hL275
    have f_tree := f_tree.mono S273
    have f_rule := f_rule.mono S273
    have h3 := S273 _ _ h3
    have r6 := r6.mono S273
    have r7 := r7.mono S273
    have h11 := S273 _ _ h11
    have hl12 := hl12.mono S273
    have h31 := h31.mono S273
    have r38 := r38.mono S273
    have h64 := h64.mono S273
    have h83 := h83.mono S273
    have h87 := S273 _ _ h87
    have hl88 := hl88.mono S273
    obtain ⟨F283, O284, S285, h286⟩ := O282.frzE 0 rfl z45
    have f_tree := f_tree.mono S285
    have f_rule := f_rule.mono S285
    have h3 := S285 _ _ h3
    have r6 := r6.mono S285
    have r7 := r7.mono S285
    have h11 := S285 _ _ h11
    have hl12 := hl12.mono S285
    have h31 := h31.mono S285
    have r38 := r38.mono S285
    have h64 := h64.mono S285
    have h83 := h83.mono S285
    have h87 := S285 _ _ h87
    have hl88 := hl88.mono S285
    have hl277 := hl277.mono S285
    have h287 := RDv.mk (κ := (Int × Int)) (β := (List Int)) h286 hl277
    refine ⟨_, rfl, ?_⟩
    exact hk _ _  O284.g  _ h287
abbrev s_seats_by : Stmt := top 22
theorem sc_seats_by : FnScope ["tree", "rule", "rows", "near", "found", "place", "own", "c"] ["tree", "rule", "rows"] (defScope s_seats_by) := ⟨rfl, rfl, rfl, by decide +kernel, rfl, by decide +kernel, by decide +kernel⟩
def m_seats_by (x_tree : ((List Int) × (List (T3 Int Int Int)))) (x_rule : (T4 (List Sm) (List Sm) (List Sm) Sm)) (x_rows : (List ((Int × Int) × (List Int)))) : M ((List Int)) :=
m_tied_places (x_tree.1.length : Int) x_tree.2 >>= fun r13 =>
loopN (fun (y43 : (Int × Int)) (st54 : (List Int)) =>
opt (atI r13 y43.1) >>= fun y88 =>
compS (fun (y98 : Int) (st115 : Unit) =>
opt (dGet x_rows (y43.1, y98)) >>= fun y133 =>
.ok (some y133, ())) y88 () >>= fun q156 =>
m_row_with x_tree x_rule y43.1 q156.1 >>= fun r162 =>
m_told_by x_rule r162 y43.2 >>= fun r170 =>
appL st54 r170 >>= fun _ =>
.ok (st54 ++ [r170])) (enumL x_tree.1) ([] : List Int) >>= fun st183 =>
.ok st183
def sp_seats_by (mg : Str → Option Value) : Sp := fun vs H Q E => ∃ (F : Hp) (v_tree : V) (x_tree : ((List Int) × (List (T3 Int Int Int)))) (v_rule : V) (x_rule : (T4 (List Sm) (List Sm) (List Sm) Sm)) (v_rows : V) (x_rows : (List ((Int × Int) × (List Int)))), vs = [v_tree, v_rule, v_rows] ∧ Pre F [] H ∧ R (a := ((List Int) × (List (T3 Int Int Int)))) F v_tree x_tree ∧ R (a := (T4 (List Sm) (List Sm) (List Sm) Sm)) F v_rule x_rule ∧ RDv (κ := (Int × Int)) (β := (List Int)) F v_rows x_rows ∧
  wp (m_seats_by x_tree x_rule x_rows) (fun r => ∀ (F' H' : Hp), Gr [] F H F' H' → ∀ (p : Addr) (w : (List V)), H p = none → F' p = none → H' p = some (.lst w) → RL (a := Int) F' w r → Q (.ref p) H')
  (fun n => ∀ (C : Addr) (H' : Hp), mg (Str.ofString n) = some (.ref C) → Kp [] H H' → E (.ref C) none H')
set_option maxHeartbeats 2000000 in
theorem ok_seats_by (nb : Nb mg) (C_row_with : Ca P w K mg base "row_with" 15 ["tree", "rule", "place", "near"] (sp_row_with mg)) (C_tied_places : Ca P w K mg base "tied_places" 1 ["many", "ties"] (sp_tied_places mg)) (C_told_by : Ca P w K mg base "told_by" 14 ["rule", "so", "own"] (sp_told_by mg)) (D : Df K mg "seats_by" "seats_by" s_seats_by ["tree", "rule", "rows"]) : Ca P w K mg base "seats_by" 16 ["tree", "rule", "rows"] (sp_seats_by mg) := by
  obtain ⟨fa_row_with, fd_row_with, G_row_with, M_row_with, K_row_with, B_row_with⟩ := C_row_with.ex
  obtain ⟨fa_tied_places, fd_tied_places, G_tied_places, M_tied_places, K_tied_places, B_tied_places⟩ := C_tied_places.ex
  obtain ⟨fa_told_by, fd_told_by, G_told_by, M_told_by, K_told_by, B_told_by⟩ := C_told_by.ex
  refine Ca.mk' D sc_seats_by (fun vs H Q E h => ?_) (fun q_ f_ cdv A outer s H vs Q E hr h => ?_)
  · obtain ⟨F, _, _, _, _, _, _, rfl, _⟩ := h
    rfl
  · obtain ⟨F, v_tree, x_tree, v_rule, x_rule, v_rows, x_rows, rfl, P0, f_tree, f_rule, f_rows, hk⟩ := h
    have nd := sc_seats_by.nd
    have hu64 := hr.units
    have hu128 := hu128_of hr
    have O := P0.start
    refine ⟨_, (pss_cons (ps_set (i := 3) nd rfl (Or.inl rfl) (pe_call G_tied_places (hr.mono (by decide)) rfl M_tied_places K_tied_places B_tied_places .nil (passes_call (takes_of rfl rfl rfl rfl) fun _ _ _ _ h => h) (pa_cons (pe_callB call_lenT (by rfl) nb.b_len PySem.boot_len (pa_cons (pe_ix (ixTupK (K := K) rfl) (pv 0) pe_int (fun _ _ => rfl)) pa_nil)) (pa_cons (pe_ix (ixTupK (K := K) rfl) (pv 0) pe_int (fun _ _ => rfl)) pa_nil))))
  (pss_cons (ps_set (i := 4) nd rfl (Or.inl rfl) (pe_lst pa_nil))
  (pss_cons (ps_for (passes_of rfl) rfl (piEnumK (K := K) rfl rfl nb.b_enumerate (pa_cons (pe_ix (ixTupK (K := K) rfl) (pv 0) pe_int (fun _ _ => rfl)) pa_nil)) (pg_tup rfl (pgs_cons (pg_name (i := 5) nd rfl (Or.inr rfl)) (pgs_cons (pg_name (i := 6) nd rfl (Or.inl rfl)) pgs_nil))) (pss_one (ps_expr (pe_bm PySem.F.plainAttrs_list PySem.F.slot_list_append PySem.F.type_list_append mt_append (pv 4) (pa_cons (pe_call G_told_by (hr.mono (by decide)) rfl M_told_by K_told_by B_told_by .nil (passes_call (takes_of rfl rfl rfl rfl) fun _ _ _ _ h => h) (pa_cons (pv 1) (pa_cons (pe_call G_row_with (hr.mono (by decide)) rfl M_row_with K_row_with B_row_with .nil (passes_call (takes_of rfl rfl rfl rfl) fun _ _ _ _ h => h) (pa_cons (pv 0) (pa_cons (pv 1) (pa_cons (pv 5) (pa_cons (pe_lc (own := [("c", 7)]) (g := gName 7) (tt := _) rfl nd (piListK (K := K) rfl (pe_ix (ixListK (K := K) rfl) (pv 3) (pv 5) (fun _ _ => rfl))) (blkOk_by (own := [("c", 7)]) (N := ["tree", "rule", "rows", "near", "found", "place", "own", "c"]) (sc := defScope s_seats_by) (by decide +kernel)) (fun _ _ _ _ _ => (pg_name (i := 7) nd rfl (Or.inl rfl))) (fun _ _ _ _ _ => pts_nil) (fun _ _ _ _ _ => (pe_dget (u1_of hu64) (pv 2) (pe_tup (pa_cons (pv 5) (pa_cons (pv 7) pa_nil))) (fun _ _ => rfl)))) pa_nil))))) (pa_cons (pv 6) pa_nil)))) pa_nil)))))
  (pss_one (ps_ret (pv 4)))))), ?_⟩
    obtain ⟨p1, v4, v5, e2, h3, r6, r7⟩ := R.t2_ f_tree
    cases e2
    obtain ⟨p8, w9, e10, h11, hl12⟩ := R.lst_ r6
    cases e10
    refine ⟨_, rfl, _, _, _, _, rfl, rfl, (SqTF O.s h3), rfl, _, _, _, rfl, (.inl (O.s _ _ h11)), hl12.len, _, rfl, _, _, _, _, rfl, rfl, (SqTF O.s h3), rfl, _, _, _, _, rfl, O.pre0, r7, wp_call hk (fun r13 er14 hk F15 H16 g17 p18 w19 hn20 hf21 h22 hl23 => ?_) (fun n hn C H1 hC kp => hn C H1 hC (O.kp0 kp))⟩
    have O24 := O.call0 g17
    have S_ := g17.f
    have f_tree := f_tree.mono S_
    have f_rule := f_rule.mono S_
    have f_rows := f_rows.mono S_
    have h3 := S_ _ _ h3
    have r6 := r6.mono S_
    have r7 := r7.mono S_
    have h11 := S_ _ _ h11
    have hl12 := hl12.mono S_
    have O25 := O.got O24 rfl hn20 hf21 h22
    have z26 := O.was hn20
    obtain ⟨F27, O28, S29, h30⟩ := O25.frzE 0 rfl z26
    have f_tree := f_tree.mono S29
    have f_rule := f_rule.mono S29
    have f_rows := f_rows.mono S29
    have h3 := S29 _ _ h3
    have r6 := r6.mono S29
    have r7 := r7.mono S29
    have h11 := S29 _ _ h11
    have hl12 := hl12.mono S29
    have hl23 := hl23.mono S29
    have h31 := R.lst (a := (List Int)) h30 hl23
    refine ⟨(by show 0 ≤ sizeLine; decide), fun p33 hp34 => ?_⟩
    have hl36 : RL (a := Int) F27 ([]) ([] : List Int) := RL.nil
    have z37 := O28.was hp34
    have O35 := O28.new (o := .lst ([])) hp34
    obtain ⟨p38, w39, e40, h41, hl42⟩ := R.lst_ r6
    cases e40
    obtain ⟨L44, hL45, hLs46, hLd47⟩ := loopN_L hk
    refine ⟨_, rfl, _, _, _, _, rfl, rfl, (SqTF O35.s h3), rfl, _, _, rfl, (SqLF O35.s h41), ?_⟩
    refine for_it (walk_enum (K := K) (xs := w39)) (fun i σ H => ∃ (F_ : Hp) (st : (List Int)) (w_0 : (List V)) (t_0 : Option V) (t_1 : Option V), σ = [some (V.ref p1), some v_rule, some v_rows, some (V.ref p18), some (V.ref p33), t_0, t_1, none] ∧ Same F27 F_ ∧ Ow _ F_ [(p33, .lst w_0)] H ∧ RL (a := Int) F_ w_0 st ∧ L44 (List.drop i (enumL x_tree.1)) st) ⟨F27, ([] : List Int), [], none, none, rfl, Same.refl _, O35, hl36, hL45⟩ (fun i_ σ_ H_ _ hp_ => ?_) ?_ ?_
    · obtain ⟨_, _, _, _, _, _, hS_, hO_, _⟩ := hp_
      exact SqLF hO_.s (hS_ _ _ h41)
    · rintro i48 _ sg50 H51 _ hi52 ⟨F59, st54, w55, t57, t58, rfl, S53, O60, hl56, hL45⟩ ⟨T61, x62, y63, rfl, hT64, rfl, hx65, hy66⟩
      have f_tree := f_tree.mono S53
      have f_rule := f_rule.mono S53
      have f_rows := f_rows.mono S53
      have h3 := S53 _ _ h3
      have r6 := r6.mono S53
      have r7 := r7.mono S53
      have h11 := S53 _ _ h11
      have hl12 := hl12.mono S53
      have h31 := h31.mono S53
      have h41 := S53 _ _ h41
      have hl42 := hl42.mono S53
      cases hx65
      obtain ⟨y67, e68, r69⟩ := RL.got hl42 hy66
      rw [enumL_get e68] at hL45
      have hk := hLs46 _ _ _ hL45
      obtain ⟨F70, O71, S72, h73⟩ := O60.putE hT64 (.tup [V.int (i48 : Int), y63])
      have f_tree := f_tree.mono S72
      have f_rule := f_rule.mono S72
      have f_rows := f_rows.mono S72
      have h3 := S72 _ _ h3
      have r6 := r6.mono S72
      have r7 := r7.mono S72
      have h11 := S72 _ _ h11
      have hl12 := hl12.mono S72
      have h31 := h31.mono S72
      have h41 := S72 _ _ h41
      have hl42 := hl42.mono S72
      have hl56 := hl56.mono S72
      have S53 := S53.trans S72
      have r69 := r69.mono S72
      obtain ⟨y43, he75⟩ : ∃ z_, z_ = ((i48 : Int), y67) := ⟨_, rfl⟩
      try rw [← he75] at hk
      have h74 : R (a := (Int × Int)) F70 (.ref T61) y43 := by rw [he75]; exact R.t2 h73 R.int r69
      obtain ⟨p76, v79, v80, e77, h78, r81, r82⟩ := R.t2_ h74
      cases e77
      obtain rfl := R.int_ r81
      obtain rfl := R.int_ r82
      obtain ⟨p83, w84, e85, h86, hl87⟩ := R.lst_ h31
      cases e85
      obtain ⟨y88, e89, hk⟩ := wp_opt hk
      obtain ⟨w90, e91, r92⟩ := hl87.atI e89
      obtain ⟨p93, w94, e95, h96, hl97⟩ := R.lst_ r92
      cases e95
      obtain ⟨c103, L99, hL100, hLs101, hLd102⟩ := compS_L hk
      refine ⟨_, _, rfl, (SqTF O71.s h78), rfl, _, _, rfl, _, _, rfl, rfl, _, rfl, (.inl ⟨rfl, _, SqL.of (O71.at 0 rfl)⟩), _, rfl, _, rfl, _, rfl, _, rfl, _, rfl, _, rfl, _, _, _, _, rfl, rfl, (SqLF O71.s h86), e91, _, rfl, ⟨_, (SqLF O71.s h96)⟩, fun p104 hp105 => ?_⟩
      have z145 := O71.was hp105
      refine lc_list (K := K) (xs := w94) (fun i H => ∃ (F_ : Hp) (st : Unit) (acc : List (List Int)) (wa : List V), Same F70 F_ ∧ Ow _ F_ [(p104, .lst wa), (p33, .lst w55)] H ∧ RL F_ wa acc ∧ wa.length ≤ i ∧ L99 (List.drop i y88) acc st) ⟨F70, (), [], [], Same.refl _, O71.new hp105, RL.nil, Nat.zero_le _, hL100⟩ (fun i_ H_ _ hp_ => ?_) ?_ ?_
      · obtain ⟨_, _, _, _, hS_, hO_, _⟩ := hp_
        exact SqLF hO_.s (hS_ _ _ h96)
      · rintro i106 x107 H108 hi109 ⟨F114, st115, acc111, wa112, S116, O118, hl117, la113, hL100⟩
        have f_tree := f_tree.mono S116
        have f_rule := f_rule.mono S116
        have f_rows := f_rows.mono S116
        have h3 := S116 _ _ h3
        have r6 := r6.mono S116
        have r7 := r7.mono S116
        have h11 := S116 _ _ h11
        have hl12 := hl12.mono S116
        have h31 := h31.mono S116
        have h41 := S116 _ _ h41
        have hl42 := hl42.mono S116
        have hl56 := hl56.mono S116
        have S53 := S53.trans S116
        have r69 := r69.mono S116
        have h74 := h74.mono S116
        have h78 := S116 _ _ h78
        have h86 := S116 _ _ h86
        have hl87 := hl87.mono S116
        have r92 := r92.mono S116
        have h96 := S116 _ _ h96
        have hl97 := hl97.mono S116
        obtain ⟨y98, e119, r120⟩ := RL.got hl97 hi109
        rw [drop_at e119] at hL100
        have hk := hLs101 _ _ _ _ hL100
        obtain rfl := R.int_ r120
        refine ⟨rfl, ?_⟩
        refine ⟨_, rfl, _, rfl, _, rfl, (by show 2 ≤ sizeLine; decide), fun p121 hp122 => ?_⟩
        obtain ⟨F123, O124, S125, h126⟩ := O118.putE hp122 (.tup [V.int y43.1, V.int y98])
        have f_tree := f_tree.mono S125
        have f_rule := f_rule.mono S125
        have f_rows := f_rows.mono S125
        have h3 := S125 _ _ h3
        have r6 := r6.mono S125
        have r7 := r7.mono S125
        have h11 := S125 _ _ h11
        have hl12 := hl12.mono S125
        have h31 := h31.mono S125
        have h41 := S125 _ _ h41
        have hl42 := hl42.mono S125
        have hl56 := hl56.mono S125
        have S53 := S53.trans S125
        have r69 := r69.mono S125
        have h74 := h74.mono S125
        have h78 := S125 _ _ h78
        have h86 := S125 _ _ h86
        have hl87 := hl87.mono S125
        have r92 := r92.mono S125
        have h96 := S125 _ _ h96
        have hl97 := hl97.mono S125
        have S116 := S116.trans S125
        have hl117 := hl117.mono S125
        have h127 : R (a := (Int × Int)) F123 (.ref p121) (y43.1, y98) := R.t2 h126 R.int R.int
        obtain ⟨p128, w129, e130, h131, hl132⟩ := f_rows
        cases e130
        have h131 : F123 _ = some (.dT w129) := h131
        have f_rows := RDv.mk (κ := (Int × Int)) (β := (List Int)) h131 hl132
        obtain ⟨p138, v141, v142, e139, h140, r143, r144⟩ := R.t2_ h127
        cases e139
        obtain rfl := R.int_ r143
        obtain rfl := R.int_ r144
        obtain ⟨y133, e134, hk⟩ := wp_opt hk
        obtain ⟨w135, e136, r137⟩ := RD.some hl132 (k := ((y43.1, y98).1, (y43.1, y98).2)) e134
        refine ⟨_, _, rfl, (dget_T (O124.s _ _ h131) (O124.s _ _ h140) e136), _, (O124.at 0 rfl), (comp_len la113 hi109 hl97.len c103), ?_⟩
        exact ⟨F123, (), acc111 ++ [y133], wa112 ++ [w135], S116, O124.set 0 (.lst (wa112 ++ [w135])) rfl, RL.snoc hl117 r137, by rw [List.length_append]; exact Nat.succ_le_succ la113, hk⟩
      rintro H146 ⟨F147, st148, acc149, wa150, S151, O152, hl153, la154, hL155⟩
      rw [drop_end hl97.len] at hL155
      have hk := hLd102 _ _ hL155
      have f_tree := f_tree.mono S151
      have f_rule := f_rule.mono S151
      have f_rows := f_rows.mono S151
      have h3 := S151 _ _ h3
      have r6 := r6.mono S151
      have r7 := r7.mono S151
      have h11 := S151 _ _ h11
      have hl12 := hl12.mono S151
      have h31 := h31.mono S151
      have h41 := S151 _ _ h41
      have hl42 := hl42.mono S151
      have hl56 := hl56.mono S151
      have S53 := S53.trans S151
      have r69 := r69.mono S151
      have h74 := h74.mono S151
      have h78 := S151 _ _ h78
      have h86 := S151 _ _ h86
      have hl87 := hl87.mono S151
      have r92 := r92.mono S151
      have h96 := S151 _ _ h96
      have hl97 := hl97.mono S151
      obtain ⟨F157, O158, S159, h160⟩ := O152.frzE 0 rfl z145
      have f_tree := f_tree.mono S159
      have f_rule := f_rule.mono S159
      have f_rows := f_rows.mono S159
      have h3 := S159 _ _ h3
      have r6 := r6.mono S159
      have r7 := r7.mono S159
      have h11 := S159 _ _ h11
      have hl12 := hl12.mono S159
      have h31 := h31.mono S159
      have h41 := S159 _ _ h41
      have hl42 := hl42.mono S159
      have hl56 := hl56.mono S159
      have S53 := S53.trans S159
      have r69 := r69.mono S159
      have h74 := h74.mono S159
      have h78 := S159 _ _ h78
      have h86 := S159 _ _ h86
      have hl87 := hl87.mono S159
      have r92 := r92.mono S159
      have h96 := S159 _ _ h96
      have hl97 := hl97.mono S159
      have hl153 := hl153.mono S159
      have h161 := R.lst (a := (List Int)) h160 hl153
      refine ⟨_, _, _, _, _, _, _, _, rfl, O158.pre0, f_tree, f_rule, h161, wp_call hk (fun r162 er163 hk F164 H165 g166 v167 r168 => ?_) (fun n hn C H1 hC kp => hn C H1 hC (O158.kp0 kp))⟩
      have O169 := O158.call0 g166
      have S_ := g166.f
      have f_tree := f_tree.mono S_
      have f_rule := f_rule.mono S_
      have f_rows := f_rows.mono S_
      have h3 := S_ _ _ h3
      have r6 := r6.mono S_
      have r7 := r7.mono S_
      have h11 := S_ _ _ h11
      have hl12 := hl12.mono S_
      have h31 := h31.mono S_
      have h41 := S_ _ _ h41
      have hl42 := hl42.mono S_
      have hl56 := hl56.mono S_
      have S53 := S53.trans S_
      have r69 := r69.mono S_
      have h74 := h74.mono S_
      have h78 := S_ _ _ h78
      have h86 := S_ _ _ h86
      have hl87 := hl87.mono S_
      have r92 := r92.mono S_
      have h96 := S_ _ _ h96
      have hl97 := hl97.mono S_
      have h161 := h161.mono S_
      refine ⟨_, rfl, _, _, _, _, _, _, rfl, O169.pre0, f_rule, r168, wp_call hk (fun r170 er171 hk F172 H173 g174 => ?_) (fun n hn C H1 hC kp => hn C H1 hC (O169.kp0 kp))⟩
      have O175 := O169.call0 g174
      have S_ := g174.f
      have f_tree := f_tree.mono S_
      have f_rule := f_rule.mono S_
      have f_rows := f_rows.mono S_
      have h3 := S_ _ _ h3
      have r6 := r6.mono S_
      have r7 := r7.mono S_
      have h11 := S_ _ _ h11
      have hl12 := hl12.mono S_
      have h31 := h31.mono S_
      have h41 := S_ _ _ h41
      have hl42 := hl42.mono S_
      have hl56 := hl56.mono S_
      have S53 := S53.trans S_
      have r69 := r69.mono S_
      have h74 := h74.mono S_
      have h78 := S_ _ _ h78
      have h86 := S_ _ _ h86
      have hl87 := hl87.mono S_
      have r92 := r92.mono S_
      have h96 := S_ _ _ h96
      have hl97 := hl97.mono S_
      have h161 := h161.mono S_
      have r168 := r168.mono S_
      obtain ⟨c176, hk⟩ := wp_appL hk
      refine ⟨_, _, _, rfl, rfl, (O175.at 0 rfl), (by rw [hl56.len]; exact c176), ?_⟩
      have O178 := O175.set 0 (.lst (w55 ++ [V.int r170])) rfl
      have hl179 : RL (a := Int) F172 (w55 ++ [V.int r170]) (st54 ++ [r170]) := RL.snoc hl56 R.int
      exact ⟨F172, (st54 ++ [r170]), (w55 ++ [V.int r170]), some (V.int y43.1), some (V.int y43.2), rfl, S53, O178, hl179, hk⟩
    rintro sg180 H181 ⟨F189, st183, w185, t187, t188, rfl, S182, O190, hl186, hL184⟩
    rw [enumL_end hl42.len] at hL184
    have hk := hLd47 _ hL184
    have f_tree := f_tree.mono S182
    have f_rule := f_rule.mono S182
    have f_rows := f_rows.mono S182
    have h3 := S182 _ _ h3
    have r6 := r6.mono S182
    have r7 := r7.mono S182
    have h11 := S182 _ _ h11
    have hl12 := hl12.mono S182
    have h31 := h31.mono S182
    have h41 := S182 _ _ h41
    have hl42 := hl42.mono S182
    refine ⟨_, rfl, ?_⟩
    exact hk _ _  O190.g  _ _ z37 (O190.cf _ (List.mem_of_getElem? (i := 0) rfl)) (O190.at 0 rfl) hl186
abbrev s_all_rows : Stmt := top 23
theorem sc_all_rows : FnScope ["tree", "rule", "rows", "branch"] ["tree", "rule"] (defScope s_all_rows) := ⟨rfl, rfl, rfl, by decide +kernel, rfl, by decide +kernel, by decide +kernel⟩
def m_all_rows (x_tree : ((List Int) × (List (T3 Int Int Int)))) (x_rule : (T4 (List Sm) (List Sm) (List Sm) Sm)) : M ((List ((Int × Int) × (List Int)))) :=
m_need_rule x_rule >>= fun r1 =>
m_rows_known x_tree x_rule >>= fun r7 =>
m_every_branch x_tree >>= fun r15 =>
compS (fun (y39 : (Int × Int)) (st56 : Unit) =>
opt (dGet r7 y39) >>= fun y67 =>
.ok (some (y39, y67), ())) r15 () >>= fun q97 =>
.ok q97.1
def sp_all_rows (mg : Str → Option Value) : Sp := fun vs H Q E => ∃ (F : Hp) (v_tree : V) (x_tree : ((List Int) × (List (T3 Int Int Int)))) (v_rule : V) (x_rule : (T4 (List Sm) (List Sm) (List Sm) Sm)), vs = [v_tree, v_rule] ∧ Pre F [] H ∧ R (a := ((List Int) × (List (T3 Int Int Int)))) F v_tree x_tree ∧ R (a := (T4 (List Sm) (List Sm) (List Sm) Sm)) F v_rule x_rule ∧
  wp (m_all_rows x_tree x_rule) (fun r => ∀ (F' H' : Hp), Gr [] F H F' H' → ∀ v : V, R (a := (List ((Int × Int) × (List Int)))) F' v r → Q v H')
  (fun n => ∀ (C : Addr) (H' : Hp), mg (Str.ofString n) = some (.ref C) → Kp [] H H' → E (.ref C) none H')
set_option maxHeartbeats 2000000 in
theorem ok_all_rows (nb : Nb mg) (C_every_branch : Ca P w K mg base "every_branch" 2 ["tree"] (sp_every_branch mg)) (C_need_rule : Ca P w K mg base "need_rule" 63 ["rule"] (sp_need_rule mg)) (C_rows_known : Ca P w K mg base "rows_known" 16 ["tree", "rule"] (sp_rows_known mg)) (D : Df K mg "all_rows" "all_rows" s_all_rows ["tree", "rule"]) : Ca P w K mg base "all_rows" 64 ["tree", "rule"] (sp_all_rows mg) := by
  obtain ⟨fa_every_branch, fd_every_branch, G_every_branch, M_every_branch, K_every_branch, B_every_branch⟩ := C_every_branch.ex
  obtain ⟨fa_need_rule, fd_need_rule, G_need_rule, M_need_rule, K_need_rule, B_need_rule⟩ := C_need_rule.ex
  obtain ⟨fa_rows_known, fd_rows_known, G_rows_known, M_rows_known, K_rows_known, B_rows_known⟩ := C_rows_known.ex
  refine Ca.mk' D sc_all_rows (fun vs H Q E h => ?_) (fun q_ f_ cdv A outer s H vs Q E hr h => ?_)
  · obtain ⟨F, _, _, _, _, rfl, _⟩ := h
    rfl
  · obtain ⟨F, v_tree, x_tree, v_rule, x_rule, rfl, P0, f_tree, f_rule, hk⟩ := h
    have nd := sc_all_rows.nd
    have hu64 := hr.units
    have hu128 := hu128_of hr
    have O := P0.start
    refine ⟨_, (pss_cons (ps_expr (pe_call G_need_rule (hr.mono (by decide)) rfl M_need_rule K_need_rule B_need_rule .nil (passes_call (takes_of rfl rfl rfl rfl) fun _ _ _ _ h => h) (pa_cons (pv 1) pa_nil)))
  (pss_cons (ps_set (i := 2) nd rfl (Or.inr rfl) (pe_call G_rows_known (hr.mono (by decide)) rfl M_rows_known K_rows_known B_rows_known .nil (passes_call (takes_of rfl rfl rfl rfl) fun _ _ _ _ h => h) (pa_cons (pv 0) (pa_cons (pv 1) pa_nil))))
  (pss_one (ps_ret (pe_lc (own := [("branch", 3)]) (g := gName 3) (tt := _) rfl nd (piListK (K := K) rfl (pe_call G_every_branch (hr.mono (by decide)) rfl M_every_branch K_every_branch B_every_branch .nil (passes_call (takes_of rfl rfl rfl rfl) fun _ _ _ _ h => h) (pa_cons (pv 0) pa_nil))) (blkOk_by (own := [("branch", 3)]) (N := ["tree", "rule", "rows", "branch"]) (sc := defScope s_all_rows) (by decide +kernel)) (fun _ _ _ _ _ => (pg_name (i := 3) nd rfl (Or.inl rfl))) (fun _ _ _ _ _ => pts_nil) (fun _ _ _ _ _ => (pe_tup (pa_cons (pv 3) (pa_cons (pe_dget (u1_of hu64) (pv 2) (pv 3) (fun _ _ => rfl)) pa_nil))))))))), ?_⟩
    refine ⟨_, rfl, _, _, _, rfl, O.pre0, f_rule, wp_call hk (fun r1 er2 hk F3 H4 g5 => ?_) (fun n hn C H1 hC kp => hn C H1 hC (O.kp0 kp))⟩
    have O6 := O.call0 g5
    have S_ := g5.f
    have f_tree := f_tree.mono S_
    have f_rule := f_rule.mono S_
    refine ⟨_, rfl, _, rfl, _, _, _, _, _, rfl, O6.pre0, f_tree, f_rule, wp_call hk (fun r7 er8 hk F9 H10 g11 v12 r13 => ?_) (fun n hn C H1 hC kp => hn C H1 hC (O6.kp0 kp))⟩
    have O14 := O6.call0 g11
    have S_ := g11.f
    have f_tree := f_tree.mono S_
    have f_rule := f_rule.mono S_
    refine ⟨_, rfl, _, _, _, rfl, O14.pre0, f_tree, wp_call hk (fun r15 er16 hk F17 H18 g19 p20 w21 hn22 hf23 h24 hl25 => ?_) (fun n hn C H1 hC kp => hn C H1 hC (O14.kp0 kp))⟩
    have O26 := O14.call0 g19
    have S_ := g19.f
    have f_tree := f_tree.mono S_
    have f_rule := f_rule.mono S_
    have r13 := r13.mono S_
    have O27 := O14.got O26 rfl hn22 hf23 h24
    have z28 := O14.was hn22
    obtain ⟨F29, O30, S31, h32⟩ := O27.frzE 0 rfl z28
    have f_tree := f_tree.mono S31
    have f_rule := f_rule.mono S31
    have r13 := r13.mono S31
    have hl25 := hl25.mono S31
    have h33 := R.lst (a := (Int × Int)) h32 hl25
    obtain ⟨p34, w35, e36, h37, hl38⟩ := R.lst_ h33
    cases e36
    obtain ⟨c44, L40, hL41, hLs42, hLd43⟩ := compS_L hk
    refine ⟨_, rfl, ⟨_, (SqLF O30.s h37)⟩, fun p45 hp46 => ?_⟩
    have z86 := O30.was hp46
    refine lc_list (K := K) (xs := w35) (fun i H => ∃ (F_ : Hp) (st : Unit) (acc : List ((Int × Int) × (List Int))) (wa : List V), Same F29 F_ ∧ Ow _ F_ [(p45, .lst wa)] H ∧ RL F_ wa acc ∧ wa.length ≤ i ∧ L40 (List.drop i r15) acc st) ⟨F29, (), [], [], Same.refl _, O30.new hp46, RL.nil, Nat.zero_le _, hL41⟩ (fun i_ H_ _ hp_ => ?_) ?_ ?_
    · obtain ⟨_, _, _, _, hS_, hO_, _⟩ := hp_
      exact SqLF hO_.s (hS_ _ _ h37)
    · rintro i47 x48 H49 hi50 ⟨F55, st56, acc52, wa53, S57, O59, hl58, la54, hL41⟩
      have f_tree := f_tree.mono S57
      have f_rule := f_rule.mono S57
      have r13 := r13.mono S57
      have h33 := h33.mono S57
      have h37 := S57 _ _ h37
      have hl38 := hl38.mono S57
      obtain ⟨y39, e60, r61⟩ := RL.got hl38 hi50
      rw [drop_at e60] at hL41
      have hk := hLs42 _ _ _ _ hL41
      refine ⟨rfl, ?_⟩
      obtain ⟨p62, w63, e64, h65, hl66⟩ := r13
      cases e64
      have h65 : F55 _ = some (.dT w63) := h65
      have r13 := RDv.mk (κ := (Int × Int)) (β := (List Int)) h65 hl66
      obtain ⟨p72, v75, v76, e73, h74, r77, r78⟩ := R.t2_ r61
      cases e73
      obtain rfl := R.int_ r77
      obtain rfl := R.int_ r78
      obtain ⟨y67, e68, hk⟩ := wp_opt hk
      obtain ⟨w69, e70, r71⟩ := RD.some hl66 (k := (y39.1, y39.2)) e68
      refine ⟨_, rfl, _, rfl, _, rfl, _, _, rfl, (dget_T (O59.s _ _ h65) (O59.s _ _ h74) e70), (by show 2 ≤ sizeLine; decide), fun p79 hp80 => ?_⟩
      obtain ⟨F81, O82, S83, h84⟩ := O59.putE hp80 (.tup [V.ref p72, w69])
      have f_tree := f_tree.mono S83
      have f_rule := f_rule.mono S83
      have r13 := r13.mono S83
      have h33 := h33.mono S83
      have h37 := S83 _ _ h37
      have hl38 := hl38.mono S83
      have S57 := S57.trans S83
      have hl58 := hl58.mono S83
      have r61 := r61.mono S83
      have h65 := S83 _ _ h65
      have hl66 := hl66.mono S83
      have h74 := S83 _ _ h74
      have r71 := r71.mono S83
      have h85 : R (a := ((Int × Int) × (List Int))) F81 (.ref p79) (y39, y67) := R.t2 h84 r61 r71
      refine ⟨_, (O82.at 0 rfl), (comp_len la54 hi50 hl38.len c44), ?_⟩
      exact ⟨F81, (), acc52 ++ [(y39, y67)], wa53 ++ [V.ref p79], S57, O82.set 0 (.lst (wa53 ++ [V.ref p79])) rfl, RL.snoc hl58 h85, by rw [List.length_append]; exact Nat.succ_le_succ la54, hk⟩
    rintro H87 ⟨F88, st89, acc90, wa91, S92, O93, hl94, la95, hL96⟩
    rw [drop_end hl38.len] at hL96
    have hk := hLd43 _ _ hL96
    have f_tree := f_tree.mono S92
    have f_rule := f_rule.mono S92
    have r13 := r13.mono S92
    have h33 := h33.mono S92
    have h37 := S92 _ _ h37
    have hl38 := hl38.mono S92
    obtain ⟨F98, O99, S100, h101⟩ := O93.frzE 0 rfl z86
    have f_tree := f_tree.mono S100
    have f_rule := f_rule.mono S100
    have r13 := r13.mono S100
    have h33 := h33.mono S100
    have h37 := S100 _ _ h37
    have hl38 := hl38.mono S100
    have hl94 := hl94.mono S100
    have h102 := R.lst (a := ((Int × Int) × (List Int))) h101 hl94
    exact hk _ _  O99.g  _ h102
abbrev s_all_seats : Stmt := top 24
theorem sc_all_seats : FnScope ["tree", "rule"] ["tree", "rule"] (defScope s_all_seats) := ⟨rfl, rfl, rfl, by decide +kernel, rfl, by decide +kernel, by decide +kernel⟩
def m_all_seats (x_tree : ((List Int) × (List (T3 Int Int Int)))) (x_rule : (T4 (List Sm) (List Sm) (List Sm) Sm)) : M ((List Int)) :=
m_need_rule x_rule >>= fun r1 =>
m_rows_known x_tree x_rule >>= fun r8 =>
m_seats_by x_tree x_rule r8 >>= fun r16 =>
.ok r16
def sp_all_seats (mg : Str → Option Value) : Sp := fun vs H Q E => ∃ (F : Hp) (v_tree : V) (x_tree : ((List Int) × (List (T3 Int Int Int)))) (v_rule : V) (x_rule : (T4 (List Sm) (List Sm) (List Sm) Sm)), vs = [v_tree, v_rule] ∧ Pre F [] H ∧ R (a := ((List Int) × (List (T3 Int Int Int)))) F v_tree x_tree ∧ R (a := (T4 (List Sm) (List Sm) (List Sm) Sm)) F v_rule x_rule ∧
  wp (m_all_seats x_tree x_rule) (fun r => ∀ (F' H' : Hp), Gr [] F H F' H' → ∀ (p : Addr) (w : (List V)), H p = none → F' p = none → H' p = some (.lst w) → RL (a := Int) F' w r → Q (.ref p) H')
  (fun n => ∀ (C : Addr) (H' : Hp), mg (Str.ofString n) = some (.ref C) → Kp [] H H' → E (.ref C) none H')
set_option maxHeartbeats 2000000 in
theorem ok_all_seats (nb : Nb mg) (C_need_rule : Ca P w K mg base "need_rule" 63 ["rule"] (sp_need_rule mg)) (C_rows_known : Ca P w K mg base "rows_known" 16 ["tree", "rule"] (sp_rows_known mg)) (C_seats_by : Ca P w K mg base "seats_by" 16 ["tree", "rule", "rows"] (sp_seats_by mg)) (D : Df K mg "all_seats" "all_seats" s_all_seats ["tree", "rule"]) : Ca P w K mg base "all_seats" 64 ["tree", "rule"] (sp_all_seats mg) := by
  obtain ⟨fa_need_rule, fd_need_rule, G_need_rule, M_need_rule, K_need_rule, B_need_rule⟩ := C_need_rule.ex
  obtain ⟨fa_rows_known, fd_rows_known, G_rows_known, M_rows_known, K_rows_known, B_rows_known⟩ := C_rows_known.ex
  obtain ⟨fa_seats_by, fd_seats_by, G_seats_by, M_seats_by, K_seats_by, B_seats_by⟩ := C_seats_by.ex
  refine Ca.mk' D sc_all_seats (fun vs H Q E h => ?_) (fun q_ f_ cdv A outer s H vs Q E hr h => ?_)
  · obtain ⟨F, _, _, _, _, rfl, _⟩ := h
    rfl
  · obtain ⟨F, v_tree, x_tree, v_rule, x_rule, rfl, P0, f_tree, f_rule, hk⟩ := h
    have nd := sc_all_seats.nd
    have hu64 := hr.units
    have hu128 := hu128_of hr
    have O := P0.start
    refine ⟨_, (pss_cons (ps_expr (pe_call G_need_rule (hr.mono (by decide)) rfl M_need_rule K_need_rule B_need_rule .nil (passes_call (takes_of rfl rfl rfl rfl) fun _ _ _ _ h => h) (pa_cons (pv 1) pa_nil)))
  (pss_one (ps_ret (pe_call G_seats_by (hr.mono (by decide)) rfl M_seats_by K_seats_by B_seats_by .nil (passes_call (takes_of rfl rfl rfl rfl) fun _ _ _ _ h => h) (pa_cons (pv 0) (pa_cons (pv 1) (pa_cons (pe_call G_rows_known (hr.mono (by decide)) rfl M_rows_known K_rows_known B_rows_known .nil (passes_call (takes_of rfl rfl rfl rfl) fun _ _ _ _ h => h) (pa_cons (pv 0) (pa_cons (pv 1) pa_nil))) pa_nil))))))), ?_⟩
    refine ⟨_, rfl, _, _, _, rfl, O.pre0, f_rule, wp_call hk (fun r1 er2 hk F3 H4 g5 => ?_) (fun n hn C H1 hC kp => hn C H1 hC (O.kp0 kp))⟩
    have O6 := O.call0 g5
    have S_ := g5.f
    have f_tree := f_tree.mono S_
    have f_rule := f_rule.mono S_
    refine ⟨_, rfl, _, rfl, _, rfl, _, rfl, _, _, _, _, _, rfl, O6.pre0, f_tree, f_rule, wp_call hk (fun r8 er9 hk F10 H11 g12 v13 r14 => ?_) (fun n hn C H1 hC kp => hn C H1 hC (O6.kp0 kp))⟩
    have O15 := O6.call0 g12
    have S_ := g12.f
    have f_tree := f_tree.mono S_
    have f_rule := f_rule.mono S_
    refine ⟨_, _, _, _, _, _, _, rfl, O15.pre0, f_tree, f_rule, r14, wp_call hk (fun r16 er17 hk F18 H19 g20 p21 w22 hn23 hf24 h25 hl26 => ?_) (fun n hn C H1 hC kp => hn C H1 hC (O15.kp0 kp))⟩
    have O27 := O15.call0 g20
    have S_ := g20.f
    have f_tree := f_tree.mono S_
    have f_rule := f_rule.mono S_
    have r14 := r14.mono S_
    have O28 := O15.got O27 rfl hn23 hf24 h25
    have z29 := O15.was hn23
    exact hk _ _  O28.g  _ _ z29 (O28.cf _ (List.mem_of_getElem? (i := 0) rfl)) (O28.at 0 rfl) hl26
abbrev s_best_seats : Stmt := top 25
theorem sc_best_seats : FnScope ["tree", "rule", "worths", "place", "worth"] ["tree", "rule"] (defScope s_best_seats) := ⟨rfl, rfl, rfl, by decide +kernel, rfl, by decide +kernel, by decide +kernel⟩
def m_best_seats (x_tree : ((List Int) × (List (T3 Int Int Int)))) (x_rule : (T4 (List Sm) (List Sm) (List Sm) Sm)) : M ((List Int)) :=
m_all_seats x_tree x_rule >>= fun r1 =>
compS (fun (y26 : (Int × Int)) (st43 : Unit) =>
opt (mxI r1) >>= fun y74 =>
if y26.2 = y74 then (
.ok (some y26.1, ()))
else (
.ok (none, ()))) (enumL r1) () >>= fun q92 =>
.ok q92.1
def sp_best_seats (mg : Str → Option Value) : Sp := fun vs H Q E => ∃ (F : Hp) (v_tree : V) (x_tree : ((List Int) × (List (T3 Int Int Int)))) (v_rule : V) (x_rule : (T4 (List Sm) (List Sm) (List Sm) Sm)), vs = [v_tree, v_rule] ∧ Pre F [] H ∧ R (a := ((List Int) × (List (T3 Int Int Int)))) F v_tree x_tree ∧ R (a := (T4 (List Sm) (List Sm) (List Sm) Sm)) F v_rule x_rule ∧
  wp (m_best_seats x_tree x_rule) (fun r => ∀ (F' H' : Hp), Gr [] F H F' H' → ∀ (p : Addr) (w : (List V)), H p = none → F' p = none → H' p = some (.lst w) → RL (a := Int) F' w r → Q (.ref p) H')
  (fun n => ∀ (C : Addr) (H' : Hp), mg (Str.ofString n) = some (.ref C) → Kp [] H H' → E (.ref C) none H')
set_option maxHeartbeats 2000000 in
theorem ok_best_seats (nb : Nb mg) (C_all_seats : Ca P w K mg base "all_seats" 64 ["tree", "rule"] (sp_all_seats mg)) (D : Df K mg "best_seats" "best_seats" s_best_seats ["tree", "rule"]) : Ca P w K mg base "best_seats" 65 ["tree", "rule"] (sp_best_seats mg) := by
  obtain ⟨fa_all_seats, fd_all_seats, G_all_seats, M_all_seats, K_all_seats, B_all_seats⟩ := C_all_seats.ex
  refine Ca.mk' D sc_best_seats (fun vs H Q E h => ?_) (fun q_ f_ cdv A outer s H vs Q E hr h => ?_)
  · obtain ⟨F, _, _, _, _, rfl, _⟩ := h
    rfl
  · obtain ⟨F, v_tree, x_tree, v_rule, x_rule, rfl, P0, f_tree, f_rule, hk⟩ := h
    have nd := sc_best_seats.nd
    have hu64 := hr.units
    have hu128 := hu128_of hr
    have O := P0.start
    refine ⟨_, (pss_cons (ps_set (i := 2) nd rfl (Or.inr rfl) (pe_call G_all_seats (hr.mono (by decide)) rfl M_all_seats K_all_seats B_all_seats .nil (passes_call (takes_of rfl rfl rfl rfl) fun _ _ _ _ h => h) (pa_cons (pv 0) (pa_cons (pv 1) pa_nil))))
  (pss_one (ps_ret (pe_lc (own := [("place", 3), ("worth", 4)]) (g := gTup K 2 (gCons (gName 3) (gCons (gName 4) (gNil)))) (tt := _) rfl nd (piEnumK (K := K) rfl rfl nb.b_enumerate (pa_cons (pv 2) pa_nil)) (blkOk_by (own := [("place", 3), ("worth", 4)]) (N := ["tree", "rule", "worths", "place", "worth"]) (sc := defScope s_best_seats) (by decide +kernel)) (fun _ _ _ _ _ => (pg_tup rfl (pgs_cons (pg_name (i := 3) nd rfl (Or.inl rfl)) (pgs_cons (pg_name (i := 4) nd rfl (Or.inl rfl)) pgs_nil)))) (fun _ _ _ _ _ => (pts_one (pt_cmpR (op_eqT Int hu64) (pv 4) (pe_callB (cr_maxK (K := K) rfl rfl) (by rfl) nb.b_max (by decide +kernel) (pa_cons (pv 2) pa_nil)) (nomark _)))) (fun _ _ _ _ _ => (pv 3)))))), ?_⟩
    refine ⟨_, rfl, _, rfl, _, _, _, _, _, rfl, O.pre0, f_tree, f_rule, wp_call hk (fun r1 er2 hk F3 H4 g5 p6 w7 hn8 hf9 h10 hl11 => ?_) (fun n hn C H1 hC kp => hn C H1 hC (O.kp0 kp))⟩
    have O12 := O.call0 g5
    have S_ := g5.f
    have f_tree := f_tree.mono S_
    have f_rule := f_rule.mono S_
    have O13 := O.got O12 rfl hn8 hf9 h10
    have z14 := O.was hn8
    obtain ⟨F15, O16, S17, h18⟩ := O13.frzE 0 rfl z14
    have f_tree := f_tree.mono S17
    have f_rule := f_rule.mono S17
    have hl11 := hl11.mono S17
    have h19 := R.lst (a := Int) h18 hl11
    obtain ⟨p21, w22, e23, h24, hl25⟩ := R.lst_ h19
    cases e23
    obtain ⟨c31, L27, hL28, hLs29, hLd30⟩ := compS_L hk
    refine ⟨_, rfl, _, _, rfl, (SqLF O16.s h24), fun p32 hp33 => ?_⟩
    have z81 := O16.was hp33
    refine lc_it (walk_enum (K := K) (xs := w22)) (fun i H => ∃ (F_ : Hp) (st : Unit) (acc : List Int) (wa : List V), Same F15 F_ ∧ Ow _ F_ [(p32, .lst wa)] H ∧ RL F_ wa acc ∧ wa.length ≤ i ∧ L27 (List.drop i (enumL r1)) acc st) ⟨F15, (), [], [], Same.refl _, O16.new hp33, RL.nil, Nat.zero_le _, hL28⟩ (fun i_ H_ _ hp_ => ?_) ?_ ?_
    · obtain ⟨_, _, _, _, hS_, hO_, _⟩ := hp_
      exact SqLF hO_.s (hS_ _ _ h24)
    · rintro i34 _ H36 _ hi37 ⟨F42, st43, acc39, wa40, S44, O46, hl45, la41, hL28⟩ ⟨T47, x48, y49, rfl, hT50, rfl, hx51, hy52⟩
      have f_tree := f_tree.mono S44
      have f_rule := f_rule.mono S44
      have h19 := h19.mono S44
      have h24 := S44 _ _ h24
      have hl25 := hl25.mono S44
      cases hx51
      obtain ⟨y53, e54, r55⟩ := RL.got hl25 hy52
      rw [enumL_get e54] at hL28
      have hk := hLs29 _ _ _ _ hL28
      obtain ⟨F56, O57, S58, h59⟩ := O46.putE hT50 (.tup [V.int (i34 : Int), y49])
      have f_tree := f_tree.mono S58
      have f_rule := f_rule.mono S58
      have h19 := h19.mono S58
      have h24 := S58 _ _ h24
      have hl25 := hl25.mono S58
      have S44 := S44.trans S58
      have hl45 := hl45.mono S58
      have r55 := r55.mono S58
      obtain ⟨y26, he61⟩ : ∃ z_, z_ = ((i34 : Int), y53) := ⟨_, rfl⟩
      try rw [← he61] at hk
      have h60 : R (a := (Int × Int)) F56 (.ref T47) y26 := by rw [he61]; exact R.t2 h59 R.int r55
      obtain ⟨p62, v65, v66, e63, h64, r67, r68⟩ := R.t2_ h60
      cases e63
      obtain rfl := R.int_ r67
      obtain rfl := R.int_ r68
      obtain ⟨p69, w70, e71, h72, hl73⟩ := R.lst_ h19
      cases e71
      obtain ⟨y74, e75, hk⟩ := wp_opt hk
      refine ⟨_, _, rfl, (SqTF O57.s h64), rfl, _, _, rfl, _, _, rfl, rfl, rfl, _, rfl, _, rfl, _, r1, rfl, (by rw [← RL.ints hl73]; exact (SqLF O57.s h72)), (List.length_pos_of_mem (mxI_is e75).1), fun m76 h77 h78 => ?_⟩
      have e79 := mxI_uq e75 h77 h78
      subst e79
      refine ⟨_, _, R.int, R.int, _, rfl, ?_⟩
      refine iteD (fun q80 => ?_) (fun q80 => ?_)
      · have hk := wp_if hk q80
        refine ⟨_, rfl, _, (O57.at 0 rfl), (comp_lenE la41 hi37 hl25.len c31), ?_⟩
        exact ⟨F56, (), acc39 ++ [y26.1], wa40 ++ [V.int y26.1], S44, O57.set 0 (.lst (wa40 ++ [V.int y26.1])) rfl, RL.snoc hl45 R.int, by rw [List.length_append]; exact Nat.succ_le_succ la41, hk⟩
      · have hk := wp_el hk q80
        exact ⟨F56, (), acc39, wa40, S44, O57, hl45, Nat.le_succ_of_le la41, hk⟩
    rintro H82 ⟨F83, st84, acc85, wa86, S87, O88, hl89, la90, hL91⟩
    rw [enumL_end hl25.len] at hL91
    have hk := hLd30 _ _ hL91
    have f_tree := f_tree.mono S87
    have f_rule := f_rule.mono S87
    have h19 := h19.mono S87
    have h24 := S87 _ _ h24
    have hl25 := hl25.mono S87
    exact hk _ _  O88.g  _ _ z81 (O88.cf _ (List.mem_of_getElem? (i := 0) rfl)) (O88.at 0 rfl) hl89
abbrev s_least_seats : Stmt := top 26
theorem sc_least_seats : FnScope ["tree", "rule", "worths", "place", "worth"] ["tree", "rule"] (defScope s_least_seats) := ⟨rfl, rfl, rfl, by decide +kernel, rfl, by decide +kernel, by decide +kernel⟩
def m_least_seats (x_tree : ((List Int) × (List (T3 Int Int Int)))) (x_rule : (T4 (List Sm) (List Sm) (List Sm) Sm)) : M ((List Int)) :=
m_all_seats x_tree x_rule >>= fun r1 =>
compS (fun (y26 : (Int × Int)) (st43 : Unit) =>
opt (mnI r1) >>= fun y74 =>
if y26.2 = y74 then (
.ok (some y26.1, ()))
else (
.ok (none, ()))) (enumL r1) () >>= fun q92 =>
.ok q92.1
def sp_least_seats (mg : Str → Option Value) : Sp := fun vs H Q E => ∃ (F : Hp) (v_tree : V) (x_tree : ((List Int) × (List (T3 Int Int Int)))) (v_rule : V) (x_rule : (T4 (List Sm) (List Sm) (List Sm) Sm)), vs = [v_tree, v_rule] ∧ Pre F [] H ∧ R (a := ((List Int) × (List (T3 Int Int Int)))) F v_tree x_tree ∧ R (a := (T4 (List Sm) (List Sm) (List Sm) Sm)) F v_rule x_rule ∧
  wp (m_least_seats x_tree x_rule) (fun r => ∀ (F' H' : Hp), Gr [] F H F' H' → ∀ (p : Addr) (w : (List V)), H p = none → F' p = none → H' p = some (.lst w) → RL (a := Int) F' w r → Q (.ref p) H')
  (fun n => ∀ (C : Addr) (H' : Hp), mg (Str.ofString n) = some (.ref C) → Kp [] H H' → E (.ref C) none H')
set_option maxHeartbeats 2000000 in
theorem ok_least_seats (nb : Nb mg) (C_all_seats : Ca P w K mg base "all_seats" 64 ["tree", "rule"] (sp_all_seats mg)) (D : Df K mg "least_seats" "least_seats" s_least_seats ["tree", "rule"]) : Ca P w K mg base "least_seats" 65 ["tree", "rule"] (sp_least_seats mg) := by
  obtain ⟨fa_all_seats, fd_all_seats, G_all_seats, M_all_seats, K_all_seats, B_all_seats⟩ := C_all_seats.ex
  refine Ca.mk' D sc_least_seats (fun vs H Q E h => ?_) (fun q_ f_ cdv A outer s H vs Q E hr h => ?_)
  · obtain ⟨F, _, _, _, _, rfl, _⟩ := h
    rfl
  · obtain ⟨F, v_tree, x_tree, v_rule, x_rule, rfl, P0, f_tree, f_rule, hk⟩ := h
    have nd := sc_least_seats.nd
    have hu64 := hr.units
    have hu128 := hu128_of hr
    have O := P0.start
    refine ⟨_, (pss_cons (ps_set (i := 2) nd rfl (Or.inr rfl) (pe_call G_all_seats (hr.mono (by decide)) rfl M_all_seats K_all_seats B_all_seats .nil (passes_call (takes_of rfl rfl rfl rfl) fun _ _ _ _ h => h) (pa_cons (pv 0) (pa_cons (pv 1) pa_nil))))
  (pss_one (ps_ret (pe_lc (own := [("place", 3), ("worth", 4)]) (g := gTup K 2 (gCons (gName 3) (gCons (gName 4) (gNil)))) (tt := _) rfl nd (piEnumK (K := K) rfl rfl nb.b_enumerate (pa_cons (pv 2) pa_nil)) (blkOk_by (own := [("place", 3), ("worth", 4)]) (N := ["tree", "rule", "worths", "place", "worth"]) (sc := defScope s_least_seats) (by decide +kernel)) (fun _ _ _ _ _ => (pg_tup rfl (pgs_cons (pg_name (i := 3) nd rfl (Or.inl rfl)) (pgs_cons (pg_name (i := 4) nd rfl (Or.inl rfl)) pgs_nil)))) (fun _ _ _ _ _ => (pts_one (pt_cmpR (op_eqT Int hu64) (pv 4) (pe_callB (cr_minK (K := K) rfl rfl) (by rfl) nb.b_min (by decide +kernel) (pa_cons (pv 2) pa_nil)) (nomark _)))) (fun _ _ _ _ _ => (pv 3)))))), ?_⟩
    refine ⟨_, rfl, _, rfl, _, _, _, _, _, rfl, O.pre0, f_tree, f_rule, wp_call hk (fun r1 er2 hk F3 H4 g5 p6 w7 hn8 hf9 h10 hl11 => ?_) (fun n hn C H1 hC kp => hn C H1 hC (O.kp0 kp))⟩
    have O12 := O.call0 g5
    have S_ := g5.f
    have f_tree := f_tree.mono S_
    have f_rule := f_rule.mono S_
    have O13 := O.got O12 rfl hn8 hf9 h10
    have z14 := O.was hn8
    obtain ⟨F15, O16, S17, h18⟩ := O13.frzE 0 rfl z14
    have f_tree := f_tree.mono S17
    have f_rule := f_rule.mono S17
    have hl11 := hl11.mono S17
    have h19 := R.lst (a := Int) h18 hl11
    obtain ⟨p21, w22, e23, h24, hl25⟩ := R.lst_ h19
    cases e23
    obtain ⟨c31, L27, hL28, hLs29, hLd30⟩ := compS_L hk
    refine ⟨_, rfl, _, _, rfl, (SqLF O16.s h24), fun p32 hp33 => ?_⟩
    have z81 := O16.was hp33
    refine lc_it (walk_enum (K := K) (xs := w22)) (fun i H => ∃ (F_ : Hp) (st : Unit) (acc : List Int) (wa : List V), Same F15 F_ ∧ Ow _ F_ [(p32, .lst wa)] H ∧ RL F_ wa acc ∧ wa.length ≤ i ∧ L27 (List.drop i (enumL r1)) acc st) ⟨F15, (), [], [], Same.refl _, O16.new hp33, RL.nil, Nat.zero_le _, hL28⟩ (fun i_ H_ _ hp_ => ?_) ?_ ?_
    · obtain ⟨_, _, _, _, hS_, hO_, _⟩ := hp_
      exact SqLF hO_.s (hS_ _ _ h24)
    · rintro i34 _ H36 _ hi37 ⟨F42, st43, acc39, wa40, S44, O46, hl45, la41, hL28⟩ ⟨T47, x48, y49, rfl, hT50, rfl, hx51, hy52⟩
      have f_tree := f_tree.mono S44
      have f_rule := f_rule.mono S44
      have h19 := h19.mono S44
      have h24 := S44 _ _ h24
      have hl25 := hl25.mono S44
      cases hx51
      obtain ⟨y53, e54, r55⟩ := RL.got hl25 hy52
      rw [enumL_get e54] at hL28
      have hk := hLs29 _ _ _ _ hL28
      obtain ⟨F56, O57, S58, h59⟩ := O46.putE hT50 (.tup [V.int (i34 : Int), y49])
      have f_tree := f_tree.mono S58
      have f_rule := f_rule.mono S58
      have h19 := h19.mono S58
      have h24 := S58 _ _ h24
      have hl25 := hl25.mono S58
      have S44 := S44.trans S58
      have hl45 := hl45.mono S58
      have r55 := r55.mono S58
      obtain ⟨y26, he61⟩ : ∃ z_, z_ = ((i34 : Int), y53) := ⟨_, rfl⟩
      try rw [← he61] at hk
      have h60 : R (a := (Int × Int)) F56 (.ref T47) y26 := by rw [he61]; exact R.t2 h59 R.int r55
      obtain ⟨p62, v65, v66, e63, h64, r67, r68⟩ := R.t2_ h60
      cases e63
      obtain rfl := R.int_ r67
      obtain rfl := R.int_ r68
      obtain ⟨p69, w70, e71, h72, hl73⟩ := R.lst_ h19
      cases e71
      obtain ⟨y74, e75, hk⟩ := wp_opt hk
      refine ⟨_, _, rfl, (SqTF O57.s h64), rfl, _, _, rfl, _, _, rfl, rfl, rfl, _, rfl, _, rfl, _, r1, rfl, (by rw [← RL.ints hl73]; exact (SqLF O57.s h72)), (List.length_pos_of_mem (mnI_is e75).1), fun m76 h77 h78 => ?_⟩
      have e79 := mnI_uq e75 h77 h78
      subst e79
      refine ⟨_, _, R.int, R.int, _, rfl, ?_⟩
      refine iteD (fun q80 => ?_) (fun q80 => ?_)
      · have hk := wp_if hk q80
        refine ⟨_, rfl, _, (O57.at 0 rfl), (comp_lenE la41 hi37 hl25.len c31), ?_⟩
        exact ⟨F56, (), acc39 ++ [y26.1], wa40 ++ [V.int y26.1], S44, O57.set 0 (.lst (wa40 ++ [V.int y26.1])) rfl, RL.snoc hl45 R.int, by rw [List.length_append]; exact Nat.succ_le_succ la41, hk⟩
      · have hk := wp_el hk q80
        exact ⟨F56, (), acc39, wa40, S44, O57, hl45, Nat.le_succ_of_le la41, hk⟩
    rintro H82 ⟨F83, st84, acc85, wa86, S87, O88, hl89, la90, hL91⟩
    rw [enumL_end hl25.len] at hL91
    have hk := hLd30 _ _ hL91
    have f_tree := f_tree.mono S87
    have f_rule := f_rule.mono S87
    have h19 := h19.mono S87
    have h24 := S87 _ _ h24
    have hl25 := hl25.mono S87
    exact hk _ _  O88.g  _ _ z81 (O88.cf _ (List.mem_of_getElem? (i := 0) rfl)) (O88.at 0 rfl) hl89
abbrev s_law_stir : Stmt := top 28
theorem sc_law_stir : FnScope ["cell", "k", "number"] ["cell", "k"] (defScope s_law_stir) := ⟨rfl, rfl, rfl, by decide +kernel, rfl, by decide +kernel, by decide +kernel⟩
def m_law_stir (x_cell : Int) (x_k : Int) : M (Int) :=
chk (0 < ((10 : Int) ^ Int.toNat (40 : Int))) >>= fun _ =>
chk (CMulW (x_cell % ((10 : Int) ^ Int.toNat (40 : Int))) (48271 : Int)) >>= fun _ =>
chk (CMulW ((3 : Int) ^ Int.toNat (60 : Int)) (x_k + (1 : Int))) >>= fun _ =>
chk (CMulW (((3 : Int) ^ Int.toNat (60 : Int)) * (x_k + (1 : Int))) (x_k + (1 : Int))) >>= fun _ =>
ret ((((x_cell % ((10 : Int) ^ Int.toNat (40 : Int))) * (48271 : Int)) + ((((3 : Int) ^ Int.toNat (60 : Int)) * (x_k + (1 : Int))) * (x_k + (1 : Int)))) + x_k) >>= fun n5 =>
chk (CMulW n5 n5) >>= fun _ =>
chk (CMulW (69621 : Int) n5) >>= fun _ =>
ret ((n5 * n5) + ((69621 : Int) * n5)) >>= fun n9 =>
chk (CMulW n9 n9) >>= fun _ =>
chk (0 < (((10 : Int) ^ Int.toNat (61 : Int)) + (7 : Int))) >>= fun _ =>
chk (CDivW ((n9 * n9) % (((10 : Int) ^ Int.toNat (61 : Int)) + (7 : Int))) (8 : Int)) >>= fun _ =>
.ok (((n9 * n9) % (((10 : Int) ^ Int.toNat (61 : Int)) + (7 : Int))) / (8 : Int))
def sp_law_stir (mg : Str → Option Value) : Sp := fun vs H Q E => ∃ (F : Hp) (x_cell : Int) (x_k : Int), vs = [V.int x_cell, V.int x_k] ∧ Pre F [] H ∧
  wp (m_law_stir x_cell x_k) (fun r => ∀ (F' H' : Hp), Gr [] F H F' H' → Q (V.int r) H')
  (fun n => ∀ (C : Addr) (H' : Hp), mg (Str.ofString n) = some (.ref C) → Kp [] H H' → E (.ref C) none H')
set_option maxHeartbeats 2000000 in
theorem ok_law_stir (nb : Nb mg) (D : Df K mg "_law_stir" "_law_stir" s_law_stir ["cell", "k"]) : Ca P w K mg base "_law_stir" 1 ["cell", "k"] (sp_law_stir mg) := by
  refine Ca.mk' D sc_law_stir (fun vs H Q E h => ?_) (fun q_ f_ cdv A outer s H vs Q E hr h => ?_)
  · obtain ⟨F, _, _, rfl, _⟩ := h
    rfl
  · obtain ⟨F, x_cell, x_k, rfl, P0, hk⟩ := h
    have nd := sc_law_stir.nd
    have hu64 := hr.units
    have hu128 := hu128_of hr
    have O := P0.start
    refine ⟨_, (pss_cons (ps_set (i := 2) nd rfl (Or.inl rfl) (pe_op op_add (pe_op op_add (pe_op op_mulW (pe_op op_mod (pv 0) (pe_op op_pow pe_int pe_int)) pe_int) (pe_op op_mulW (pe_op op_mulW (pe_op op_pow pe_int pe_int) (pe_op op_add (pv 1) pe_int)) (pe_op op_add (pv 1) pe_int))) (pv 1)))
  (pss_cons (ps_set (i := 2) nd rfl (Or.inl rfl) (pe_op op_add (pe_op op_mulW (pv 2) (pv 2)) (pe_op op_mulW pe_int (pv 2))))
  (pss_one (ps_ret (pe_op op_fdivW (pe_op op_mod (pe_op op_mulW (pv 2) (pv 2)) (pe_op op_add (pe_op op_pow pe_int pe_int) pe_int)) pe_int))))), ?_⟩
    obtain ⟨c1, hk⟩ := wp_chk hk
    obtain ⟨c2, hk⟩ := wp_chk hk
    obtain ⟨c3, hk⟩ := wp_chk hk
    obtain ⟨c4, hk⟩ := wp_chk hk
    obtain ⟨n5, hn6, hk⟩ := wp_ret hk
    subst hn6
    obtain ⟨c7, hk⟩ := wp_chk hk
    obtain ⟨c8, hk⟩ := wp_chk hk
    obtain ⟨n9, hn10, hk⟩ := wp_ret hk
    subst hn10
    obtain ⟨c11, hk⟩ := wp_chk hk
    obtain ⟨c12, hk⟩ := wp_chk hk
    obtain ⟨c13, hk⟩ := wp_chk hk
    refine ⟨_, rfl, _, _, rfl, rfl, (by decide), _, _, rfl, rfl, c1, _, _, rfl, rfl, c2, _, _, rfl, rfl, (by decide), _, rfl, _, _, rfl, rfl, _, _, rfl, rfl, c3, _, rfl, _, _, rfl, rfl, _, _, rfl, rfl, c4, _, _, rfl, rfl, _, rfl, _, _, rfl, rfl, _, rfl, _, rfl, _, _, rfl, rfl, c7, _, rfl, _, _, rfl, rfl, c8, _, _, rfl, rfl, _, rfl, _, rfl, _, _, rfl, rfl, c11, _, _, rfl, rfl, (by decide), _, _, rfl, rfl, _, _, rfl, rfl, c12, _, _, rfl, rfl, c13, ?_⟩
    exact hk _ _  O.g 
abbrev s_law_deck : Stmt := top 29
theorem sc_law_deck : FnScope ["cell"] ["cell"] (defScope s_law_deck) := ⟨rfl, rfl, rfl, by decide +kernel, rfl, by decide +kernel, by decide +kernel⟩
def m_law_deck (x_cell : Int) : M ((List Int)) :=
if ((10 : Int) ^ Int.toNat (18 : Int)) ≤ x_cell then (
.ok ([(x_cell - ((10 : Int) ^ Int.toNat (18 : Int)))]))
else (
m_law_stir x_cell (1 : Int) >>= fun r9 =>
chk (CMulW r9 ((10 : Int) ^ Int.toNat (60 : Int))) >>= fun _ =>
m_law_stir x_cell (2 : Int) >>= fun r16 =>
chk (CMulW ((r9 * ((10 : Int) ^ Int.toNat (60 : Int))) + r16) ((10 : Int) ^ Int.toNat (60 : Int))) >>= fun _ =>
m_law_stir x_cell (3 : Int) >>= fun r23 =>
.ok ([((((r9 * ((10 : Int) ^ Int.toNat (60 : Int))) + r16) * ((10 : Int) ^ Int.toNat (60 : Int))) + r23)]))
def sp_law_deck (mg : Str → Option Value) : Sp := fun vs H Q E => ∃ (F : Hp) (x_cell : Int), vs = [V.int x_cell] ∧ Pre F [] H ∧
  wp (m_law_deck x_cell) (fun r => ∀ (F' H' : Hp), Gr [] F H F' H' → ∀ (p : Addr) (w : (List V)), H p = none → F' p = none → H' p = some (.lst w) → RL (a := Int) F' w r → Q (.ref p) H')
  (fun n => ∀ (C : Addr) (H' : Hp), mg (Str.ofString n) = some (.ref C) → Kp [] H H' → E (.ref C) none H')
set_option maxHeartbeats 2000000 in
theorem ok_law_deck (nb : Nb mg) (C_law_stir : Ca P w K mg base "_law_stir" 1 ["cell", "k"] (sp_law_stir mg)) (D : Df K mg "_law_deck" "_law_deck" s_law_deck ["cell"]) : Ca P w K mg base "_law_deck" 2 ["cell"] (sp_law_deck mg) := by
  obtain ⟨fa_law_stir, fd_law_stir, G_law_stir, M_law_stir, K_law_stir, B_law_stir⟩ := C_law_stir.ex
  refine Ca.mk' D sc_law_deck (fun vs H Q E h => ?_) (fun q_ f_ cdv A outer s H vs Q E hr h => ?_)
  · obtain ⟨F, _, rfl, _⟩ := h
    rfl
  · obtain ⟨F, x_cell, rfl, P0, hk⟩ := h
    have nd := sc_law_deck.nd
    have hu64 := hr.units
    have hu128 := hu128_of hr
    have O := P0.start
    refine ⟨_, (pss_cons (ps_if (pt_cmpR op_ge (pv 0) (pe_op op_pow pe_int pe_int) (nomark _)) (pss_one (ps_ret (pe_lst (pa_cons (pe_op op_sub (pv 0) (pe_op op_pow pe_int pe_int)) pa_nil)))) pss_nil)
  (pss_one (ps_ret (pe_lst (pa_cons (pe_op op_add (pe_op op_mulW (pe_op op_add (pe_op op_mulW (pe_call G_law_stir (hr.mono (by decide)) rfl M_law_stir K_law_stir B_law_stir .nil (passes_call (takes_of rfl rfl rfl rfl) fun _ _ _ _ h => h) (pa_cons (pv 0) (pa_cons pe_int pa_nil))) (pe_op op_pow pe_int pe_int)) (pe_call G_law_stir (hr.mono (by decide)) rfl M_law_stir K_law_stir B_law_stir .nil (passes_call (takes_of rfl rfl rfl rfl) fun _ _ _ _ h => h) (pa_cons (pv 0) (pa_cons pe_int pa_nil)))) (pe_op op_pow pe_int pe_int)) (pe_call G_law_stir (hr.mono (by decide)) rfl M_law_stir K_law_stir B_law_stir .nil (passes_call (takes_of rfl rfl rfl rfl) fun _ _ _ _ h => h) (pa_cons (pv 0) (pa_cons pe_int pa_nil)))) pa_nil))))), ?_⟩
    refine ⟨_, rfl, _, _, rfl, rfl, (by decide), _, _, rfl, rfl, _, rfl, ?_⟩
    refine iteD (fun q1 => ?_) (fun q1 => ?_)
    · have hk := wp_if hk q1
      refine ⟨_, rfl, _, _, rfl, rfl, (by decide), _, _, rfl, rfl, (by show 1 ≤ sizeLine; decide), fun p3 hp4 => ?_⟩
      have hl6 : RL (a := Int) F ([V.int (x_cell - ((10 : Int) ^ Int.toNat (18 : Int)))]) ([(x_cell - ((10 : Int) ^ Int.toNat (18 : Int)))]) := RL.cons R.int RL.nil
      have z7 := O.was hp4
      have O5 := O.new (o := .lst ([V.int (x_cell - ((10 : Int) ^ Int.toNat (18 : Int)))])) hp4
      exact hk _ _  O5.g  _ _ z7 (O5.cf _ (List.mem_of_getElem? (i := 0) rfl)) (O5.at 0 rfl) hl6
    · have hk := wp_el hk q1
      refine ⟨_, rfl, _, _, _, rfl, O.pre0, wp_call hk (fun r9 er10 hk F11 H12 g13 => ?_) (fun n hn C H1 hC kp => hn C H1 hC (O.kp0 kp))⟩
      have O14 := O.call0 g13
      have S_ := g13.f
      obtain ⟨c15, hk⟩ := wp_chk hk
      refine ⟨_, _, rfl, rfl, (by decide), _, _, rfl, rfl, c15, _, rfl, _, _, _, rfl, O14.pre0, wp_call hk (fun r16 er17 hk F18 H19 g20 => ?_) (fun n hn C H1 hC kp => hn C H1 hC (O14.kp0 kp))⟩
      have O21 := O14.call0 g20
      have S_ := g20.f
      obtain ⟨c22, hk⟩ := wp_chk hk
      refine ⟨_, _, rfl, rfl, _, _, rfl, rfl, (by decide), _, _, rfl, rfl, c22, _, rfl, _, _, _, rfl, O21.pre0, wp_call hk (fun r23 er24 hk F25 H26 g27 => ?_) (fun n hn C H1 hC kp => hn C H1 hC (O21.kp0 kp))⟩
      have O28 := O21.call0 g27
      have S_ := g27.f
      refine ⟨_, _, rfl, rfl, (by show 1 ≤ sizeLine; decide), fun p29 hp30 => ?_⟩
      have hl32 : RL (a := Int) F25 ([V.int ((((r9 * ((10 : Int) ^ Int.toNat (60 : Int))) + r16) * ((10 : Int) ^ Int.toNat (60 : Int))) + r23)]) ([((((r9 * ((10 : Int) ^ Int.toNat (60 : Int))) + r16) * ((10 : Int) ^ Int.toNat (60 : Int))) + r23)]) := RL.cons R.int RL.nil
      have z33 := O28.was hp30
      have O31 := O28.new (o := .lst ([V.int ((((r9 * ((10 : Int) ^ Int.toNat (60 : Int))) + r16) * ((10 : Int) ^ Int.toNat (60 : Int))) + r23)])) hp30
      exact hk _ _  O31.g  _ _ z33 (O31.cf _ (List.mem_of_getElem? (i := 0) rfl)) (O31.at 0 rfl) hl32
abbrev s_law_take : Stmt := top 30
theorem sc_law_take : FnScope ["deck", "many", "taken"] ["deck", "many"] (defScope s_law_take) := ⟨rfl, rfl, rfl, by decide +kernel, rfl, by decide +kernel, by decide +kernel⟩
def m_law_take (x_deck : (List Int)) (x_many : Int) : M (Int × (List Int)) :=
opt (atI x_deck (0 : Int)) >>= fun y1 =>
chk (0 < x_many) >>= fun _ =>
opt (atI x_deck (0 : Int)) >>= fun y7 =>
chk (CDivW y7 x_many) >>= fun _ =>
setI x_deck (0 : Int) (y7 / x_many) >>= fun z15 =>
.ok ((y1 % x_many), z15)
def sp_law_take (mg : Str → Option Value) : Sp := fun vs H Q E => ∃ (F : Hp) (a_deck : Addr) (w_deck : (List V)) (x_deck : (List Int)) (x_many : Int), vs = [.ref a_deck, V.int x_many] ∧ Pre F [(a_deck, .lst w_deck)] H ∧ RL (a := Int) F w_deck x_deck ∧
  wp (m_law_take x_deck x_many) (fun r => ∀ (F' H' : Hp) (w0 : (List V)), Gr [a_deck] F H F' H' → H' a_deck = some (.lst w0) → RL (a := Int) F' w0 r.2 → Q (V.int r.1) H')
  (fun n => ∀ (C : Addr) (H' : Hp), mg (Str.ofString n) = some (.ref C) → Kp [a_deck] H H' → E (.ref C) none H')
set_option maxHeartbeats 2000000 in
theorem ok_law_take (nb : Nb mg) (D : Df K mg "_law_take" "_law_take" s_law_take ["deck", "many"]) : Ca P w K mg base "_law_take" 1 ["deck", "many"] (sp_law_take mg) := by
  refine Ca.mk' D sc_law_take (fun vs H Q E h => ?_) (fun q_ f_ cdv A outer s H vs Q E hr h => ?_)
  · obtain ⟨F, _, _, _, _, rfl, _⟩ := h
    rfl
  · obtain ⟨F, a_deck, w_deck, x_deck, x_many, rfl, P0, f_deck, hk⟩ := h
    have nd := sc_law_take.nd
    have hu64 := hr.units
    have hu128 := hu128_of hr
    have O := P0.start
    refine ⟨_, (pss_cons (ps_set (i := 2) nd rfl (Or.inl rfl) (pe_op op_mod (pe_ix (ixListK (K := K) rfl) (pv 0) pe_int (fun _ _ => rfl)) (pv 1)))
  (pss_cons (ps_asg (pe_op op_fdivW (pe_ix (ixListK (K := K) rfl) (pv 0) pe_int (fun _ _ => rfl)) (pv 1)) (pg_sub (pv 0) pe_int set_list))
  (pss_one (ps_ret (pv 2))))), ?_⟩
    obtain ⟨y1, e2, hk⟩ := wp_opt hk
    obtain ⟨w3, e4, r5⟩ := f_deck.atI e2
    obtain rfl := R.int_ r5
    obtain ⟨c6, hk⟩ := wp_chk hk
    obtain ⟨y7, e8, hk⟩ := wp_opt hk
    obtain ⟨w9, e10, r11⟩ := f_deck.atI e8
    obtain rfl := R.int_ r11
    obtain ⟨c12, hk⟩ := wp_chk hk
    obtain ⟨j13, e14, hk⟩ := wp_setI hk
    refine ⟨_, rfl, _, _, _, _, rfl, rfl, (SqL.of (O.at 0 rfl)), e4, _, rfl, _, _, rfl, rfl, c6, _, rfl, _, _, _, _, rfl, rfl, (SqL.of (O.at 0 rfl)), e10, _, rfl, _, _, rfl, rfl, c12, _, rfl, _, _, _, _, rfl, rfl, (O.at 0 rfl), (by rw [f_deck.len]; exact e14), ?_⟩
    have O16 := O.set 0 (.lst (w_deck.set j13 (V.int (y7 / x_many)))) rfl
    have hl17 : RL (a := Int) F (w_deck.set j13 (V.int (y7 / x_many))) (x_deck.set j13 (y7 / x_many)) := RL.set j13 f_deck R.int
    refine ⟨_, rfl, ?_⟩
    exact hk _ _ (w_deck.set j13 (V.int (y7 / x_many))) O16.g (O16.at 0 rfl) hl17
abbrev s_law_number : Stmt := top 32
theorem sc_law_number : FnScope ["deck", "far"] ["deck", "far"] (defScope s_law_number) := ⟨rfl, rfl, rfl, by decide +kernel, rfl, by decide +kernel, by decide +kernel⟩
def m_law_number (x_deck : (List Int)) (x_far : Int) : M (Int × (List Int)) :=
chk (CMulW (2 : Int) x_far) >>= fun _ =>
m_law_take x_deck (((2 : Int) * x_far) + (1 : Int)) >>= fun r2 =>
.ok ((r2.1 - x_far), r2.2)
def sp_law_number (mg : Str → Option Value) : Sp := fun vs H Q E => ∃ (F : Hp) (a_deck : Addr) (w_deck : (List V)) (x_deck : (List Int)) (x_far : Int), vs = [.ref a_deck, V.int x_far] ∧ Pre F [(a_deck, .lst w_deck)] H ∧ RL (a := Int) F w_deck x_deck ∧
  wp (m_law_number x_deck x_far) (fun r => ∀ (F' H' : Hp) (w0 : (List V)), Gr [a_deck] F H F' H' → H' a_deck = some (.lst w0) → RL (a := Int) F' w0 r.2 → Q (V.int r.1) H')
  (fun n => ∀ (C : Addr) (H' : Hp), mg (Str.ofString n) = some (.ref C) → Kp [a_deck] H H' → E (.ref C) none H')
set_option maxHeartbeats 2000000 in
theorem ok_law_number (nb : Nb mg) (C_law_take : Ca P w K mg base "_law_take" 1 ["deck", "many"] (sp_law_take mg)) (D : Df K mg "_law_number" "_law_number" s_law_number ["deck", "far"]) : Ca P w K mg base "_law_number" 2 ["deck", "far"] (sp_law_number mg) := by
  obtain ⟨fa_law_take, fd_law_take, G_law_take, M_law_take, K_law_take, B_law_take⟩ := C_law_take.ex
  refine Ca.mk' D sc_law_number (fun vs H Q E h => ?_) (fun q_ f_ cdv A outer s H vs Q E hr h => ?_)
  · obtain ⟨F, _, _, _, _, rfl, _⟩ := h
    rfl
  · obtain ⟨F, a_deck, w_deck, x_deck, x_far, rfl, P0, f_deck, hk⟩ := h
    have nd := sc_law_number.nd
    have hu64 := hr.units
    have hu128 := hu128_of hr
    have O := P0.start
    refine ⟨_, (pss_one (ps_ret (pe_op op_sub (pe_call G_law_take (hr.mono (by decide)) rfl M_law_take K_law_take B_law_take .nil (passes_call (takes_of rfl rfl rfl rfl) fun _ _ _ _ h => h) (pa_cons (pv 0) (pa_cons (pe_op op_add (pe_op op_mulW pe_int (pv 1)) pe_int) pa_nil))) (pv 1)))), ?_⟩
    obtain ⟨c1, hk⟩ := wp_chk hk
    refine ⟨_, rfl, _, rfl, _, _, rfl, rfl, c1, _, _, rfl, rfl, _, _, _, _, _, rfl, (O.pre1 0 rfl), f_deck, wp_call hk (fun r2 er3 hk F4 H5 w7 g6 h8 hl9 => ?_) (fun n hn C H1 hC kp => hn C H1 hC (O.kp1 kp 0 rfl))⟩
    have O10 := O.call1 g6 0 rfl h8
    have S_ := g6.f
    refine ⟨_, rfl, _, _, rfl, rfl, ?_⟩
    exact hk _ _ w7 O10.g (O10.at 0 rfl) hl9
abbrev s_law_order : Stmt := top 33
theorem sc_law_order : FnScope ["deck", "many", "left", "found", "k"] ["deck", "many"] (defScope s_law_order) := ⟨rfl, rfl, rfl, by decide +kernel, rfl, by decide +kernel, by decide +kernel⟩
def m_law_order (x_deck : (List Int)) (x_many : Int) : M ((List Int) × (List Int)) :=
chk (okR x_many) >>= fun _ =>
chk (okR x_many) >>= fun _ =>
loopN (fun (y14 : Int) (st26 : (List Int) × (List Int) × (List Int)) =>
m_law_take st26.2.2 (st26.2.1.length : Int) >>= fun r36 =>
popI st26.2.1 r36.1 >>= fun t54 =>
appL st26.1 t54.1 >>= fun _ =>
.ok ((st26.1 ++ [t54.1]), t54.2, r36.2)) (rangeL 0 x_many) (([] : List Int), (rangeL 0 x_many), x_deck) >>= fun st64 =>
.ok (st64.1, st64.2.2)
def sp_law_order (mg : Str → Option Value) : Sp := fun vs H Q E => ∃ (F : Hp) (a_deck : Addr) (w_deck : (List V)) (x_deck : (List Int)) (x_many : Int), vs = [.ref a_deck, V.int x_many] ∧ Pre F [(a_deck, .lst w_deck)] H ∧ RL (a := Int) F w_deck x_deck ∧
  wp (m_law_order x_deck x_many) (fun r => ∀ (F' H' : Hp) (w0 : (List V)), Gr [a_deck] F H F' H' → H' a_deck = some (.lst w0) → RL (a := Int) F' w0 r.2 → ∀ (p : Addr) (w : (List V)), H p = none → F' p = none → H' p = some (.lst w) → RL (a := Int) F' w r.1 → Q (.ref p) H')
  (fun n => ∀ (C : Addr) (H' : Hp), mg (Str.ofString n) = some (.ref C) → Kp [a_deck] H H' → E (.ref C) none H')
set_option maxHeartbeats 2000000 in
theorem ok_law_order (nb : Nb mg) (C_law_take : Ca P w K mg base "_law_take" 1 ["deck", "many"] (sp_law_take mg)) (D : Df K mg "_law_order" "_law_order" s_law_order ["deck", "many"]) : Ca P w K mg base "_law_order" 2 ["deck", "many"] (sp_law_order mg) := by
  obtain ⟨fa_law_take, fd_law_take, G_law_take, M_law_take, K_law_take, B_law_take⟩ := C_law_take.ex
  refine Ca.mk' D sc_law_order (fun vs H Q E h => ?_) (fun q_ f_ cdv A outer s H vs Q E hr h => ?_)
  · obtain ⟨F, _, _, _, _, rfl, _⟩ := h
    rfl
  · obtain ⟨F, a_deck, w_deck, x_deck, x_many, rfl, P0, f_deck, hk⟩ := h
    have nd := sc_law_order.nd
    have hu64 := hr.units
    have hu128 := hu128_of hr
    have O := P0.start
    refine ⟨_, (pss_cons (ps_set (i := 2) nd rfl (Or.inl rfl) (pe_listRg rfl (by rfl) nb.b_list (prg_1 (by rfl) nb.b_range (pv 1))))
  (pss_cons (ps_set (i := 3) nd rfl (Or.inl rfl) (pe_lst pa_nil))
  (pss_cons (ps_for (passes_of rfl) rfl (pi_range1 rfl nb.b_range (pa_cons (pv 1) pa_nil)) (pg_name (i := 4) nd rfl (Or.inl rfl)) (pss_one (ps_expr (pe_bm PySem.F.plainAttrs_list PySem.F.slot_list_append PySem.F.type_list_append mt_append (pv 3) (pa_cons (pe_bm PySem.F.plainAttrs_list PySem.F.slot_list_pop PySem.F.type_list_pop mt_popAt (pv 2) (pa_cons (pe_call G_law_take (hr.mono (by decide)) rfl M_law_take K_law_take B_law_take .nil (passes_call (takes_of rfl rfl rfl rfl) fun _ _ _ _ h => h) (pa_cons (pv 0) (pa_cons (pe_callB call_lenT (by rfl) nb.b_len PySem.boot_len (pa_cons (pv 2) pa_nil)) pa_nil))) pa_nil)) pa_nil)))))
  (pss_one (ps_ret (pv 3)))))), ?_⟩
    obtain ⟨c2, hk⟩ := wp_chk hk
    refine ⟨_, rfl, _, rfl, c2.rg1, fun p3 hp4 => ?_⟩
    have hl6 : RL (a := Int) F (rgV 0 x_many) (rangeL 0 x_many) := RL.rg
    have z7 := O.was hp4
    have O5 := O.new (o := .lst (rgV 0 x_many)) hp4
    refine ⟨(by show 0 ≤ sizeLine; decide), fun p9 hp10 => ?_⟩
    have hl12 : RL (a := Int) F ([]) ([] : List Int) := RL.nil
    have z13 := O5.was hp10
    have O11 := O5.new (o := .lst ([])) hp10
    obtain ⟨c15, hk⟩ := wp_chk hk
    obtain ⟨L16, hL17, hLs18, hLd19⟩ := loopN_L hk
    refine ⟨_, rfl, _, rfl, c15.lo, c15.hi, ?_⟩
    refine for_range (lo := 0) (n := (x_many).toNat) (fun i σ H => ∃ (F_ : Hp) (st : (List Int) × (List Int) × (List Int)) (w_0 : (List V)) (w_1 : (List V)) (w_2 : (List V)) (t_0 : Option V), σ = [some (V.ref a_deck), some (V.int x_many), some (V.ref p3), some (V.ref p9), t_0] ∧ Same F F_ ∧ Ow _ F_ [(p9, .lst w_0), (p3, .lst w_1), (a_deck, .lst w_2)] H ∧ RL (a := Int) F_ w_0 st.1 ∧ RL (a := Int) F_ w_1 st.2.1 ∧ RL (a := Int) F_ w_2 st.2.2 ∧ L16 (List.drop i (rangeL 0 x_many)) st) ⟨F, (([] : List Int), (rangeL 0 x_many), x_deck), [], (rgV 0 x_many), w_deck, none, rfl, Same.refl _, O11, hl12, hl6, f_deck, hL17⟩ ?_ ?_
    · rintro i20 sg22 H23 hi24 ⟨F34, st26, w27, w28, w29, t33, rfl, S25, O35, hl30, hl31, hl32, hL17⟩
      rw [rangeL_get0 hi24] at hL17
      have hk := hLs18 _ _ _ hL17
      obtain ⟨y14, he_⟩ : ∃ z_, z_ = 0 + (i20 : Int) := ⟨_, rfl⟩
      try rw [← he_] at hk
      rw [← he_]
      refine ⟨_, rfl, (.inl ⟨rfl, _, SqL.of (O35.at 0 rfl)⟩), _, rfl, (.inl ⟨rfl, _, SqL.of (O35.at 1 rfl)⟩), _, rfl, _, rfl, _, _, _, rfl, (.inl (O35.at 1 rfl)), hl31.len, _, _, _, _, _, rfl, (O35.pre1 2 rfl), hl32, wp_call hk (fun r36 er37 hk F38 H39 w41 g40 h42 hl43 => ?_) (fun n hn C H1 hC kp => hn C H1 hC (O35.kp1 kp 2 rfl))⟩
      have O44 := O35.call1 g40 2 rfl h42
      have S_ := g40.f
      have hl30 := hl30.mono S_
      have hl31 := hl31.mono S_
      have S25 := S25.trans S_
      obtain ⟨j45, y46, e47, c48, c49, e50, hk⟩ := wp_popI hk
      obtain ⟨w51, e52, r53⟩ := hl31.get e50
      refine ⟨_, _, _, _, _, rfl, rfl, (O44.at 1 rfl), c48, c49, (by rw [hl31.len]; exact e47), e52, ?_⟩
      obtain rfl := R.int_ r53
      have O55 := O44.set 1 (.lst (w28.eraseIdx j45)) rfl
      have hl56 : RL (a := Int) F38 (w28.eraseIdx j45) (st26.2.1.eraseIdx j45) := RL.erase j45 hl31
      obtain ⟨c57, hk⟩ := wp_appL hk
      refine ⟨_, _, _, rfl, rfl, (O55.at 0 rfl), (by rw [hl30.len]; exact c57), ?_⟩
      have O59 := O55.set 0 (.lst (w27 ++ [V.int y46])) rfl
      have hl60 : RL (a := Int) F38 (w27 ++ [V.int y46]) (st26.1 ++ [y46]) := RL.snoc hl30 R.int
      exact ⟨F38, ((st26.1 ++ [y46]), st26.2.1.eraseIdx j45, r36.2), (w27 ++ [V.int y46]), (w28.eraseIdx j45), w41, some (V.int y14), rfl, S25, O59, hl60, hl56, hl43, hk⟩
    rintro sg61 H62 ⟨F73, st64, w66, w67, w68, t72, rfl, S63, O74, hl69, hl70, hl71, hL65⟩
    rw [rangeL_end0] at hL65
    have hk := hLd19 _ hL65
    refine ⟨_, rfl, ?_⟩
    exact hk _ _ w68 O74.g (O74.at 2 rfl) hl71 _ _ z13 (O74.cf _ (List.mem_of_getElem? (i := 0) rfl)) (O74.at 0 rfl) hl69
abbrev s_law_tree : Stmt := top 34
theorem sc_law_tree : FnScope ["deck", "most", "far", "many", "order", "kind", "ties", "k", "at", "pair"] ["deck", "most", "far"] (defScope s_law_tree) := ⟨rfl, rfl, rfl, by decide +kernel, rfl, by decide +kernel, by decide +kernel⟩
def m_law_tree (x_deck : (List Int)) (x_most : Int) (x_far : Int) : M (((List Int) × (List (T3 Int Int Int))) × (List Int)) :=
m_law_take x_deck x_most >>= fun r1 =>
m_law_order r1.2 ((1 : Int) + r1.1) >>= fun r10 =>
m_law_take r10.2 (5 : Int) >>= fun r32 =>
chk (okR (1 : Int)) >>= fun _ =>
chk (okR ((1 : Int) + r1.1)) >>= fun _ =>
loopN (fun (y47 : Int) (st60 : (List Int) × (List (T3 Int Int Int))) =>
m_law_take st60.1 y47 >>= fun r70 =>
m_law_take r70.2 (3 : Int) >>= fun r79 =>
m_law_take r79.2 y47 >>= fun r88 =>
opt (atI ([r70.1, (y47 - (1 : Int)), (0 : Int), (if ((y47 - (1 : Int)) - r79.1) > (0 : Int) then ((y47 - (1 : Int)) - r79.1) else (0 : Int)), r88.1]) r32.1) >>= fun y110 =>
opt (atI r10.1 y47) >>= fun y120 =>
opt (atI r10.1 y110) >>= fun y130 =>
opt (atI (sortT ([y120, y130])) (0 : Int)) >>= fun y161 =>
opt (atI (sortT ([y120, y130])) (1 : Int)) >>= fun y171 =>
m_law_number r88.2 x_far >>= fun r176 =>
appL st60.2 (T3.mk y161 y171 r176.1) >>= fun _ =>
.ok (r176.2, (st60.2 ++ [(T3.mk y161 y171 r176.1)]))) (rangeL (1 : Int) ((1 : Int) + r1.1)) (r32.2, ([] : List (T3 Int Int Int))) >>= fun st199 =>
chk (okR ((1 : Int) + r1.1)) >>= fun _ =>
compS (fun (y210 : Int) (st228 : (List Int)) =>
m_law_number st228 x_far >>= fun r234 =>
.ok (some r234.1, r234.2)) (rangeL 0 ((1 : Int) + r1.1)) st199.1 >>= fun q256 =>
.ok ((q256.1, (sortT st199.2)), q256.2)
def sp_law_tree (mg : Str → Option Value) : Sp := fun vs H Q E => ∃ (F : Hp) (a_deck : Addr) (w_deck : (List V)) (x_deck : (List Int)) (x_most : Int) (x_far : Int), vs = [.ref a_deck, V.int x_most, V.int x_far] ∧ Pre F [(a_deck, .lst w_deck)] H ∧ RL (a := Int) F w_deck x_deck ∧
  wp (m_law_tree x_deck x_most x_far) (fun r => ∀ (F' H' : Hp) (w0 : (List V)), Gr [a_deck] F H F' H' → H' a_deck = some (.lst w0) → RL (a := Int) F' w0 r.2 → ∀ v : V, R (a := ((List Int) × (List (T3 Int Int Int)))) F' v r.1 → Q v H')
  (fun n => ∀ (C : Addr) (H' : Hp), mg (Str.ofString n) = some (.ref C) → Kp [a_deck] H H' → E (.ref C) none H')
set_option maxHeartbeats 2000000 in
theorem ok_law_tree (nb : Nb mg) (C_law_number : Ca P w K mg base "_law_number" 2 ["deck", "far"] (sp_law_number mg)) (C_law_order : Ca P w K mg base "_law_order" 2 ["deck", "many"] (sp_law_order mg)) (C_law_take : Ca P w K mg base "_law_take" 1 ["deck", "many"] (sp_law_take mg)) (D : Df K mg "_law_tree" "_law_tree" s_law_tree ["deck", "most", "far"]) : Ca P w K mg base "_law_tree" 3 ["deck", "most", "far"] (sp_law_tree mg) := by
  obtain ⟨fa_law_number, fd_law_number, G_law_number, M_law_number, K_law_number, B_law_number⟩ := C_law_number.ex
  obtain ⟨fa_law_order, fd_law_order, G_law_order, M_law_order, K_law_order, B_law_order⟩ := C_law_order.ex
  obtain ⟨fa_law_take, fd_law_take, G_law_take, M_law_take, K_law_take, B_law_take⟩ := C_law_take.ex
  refine Ca.mk' D sc_law_tree (fun vs H Q E h => ?_) (fun q_ f_ cdv A outer s H vs Q E hr h => ?_)
  · obtain ⟨F, _, _, _, _, _, rfl, _⟩ := h
    rfl
  · obtain ⟨F, a_deck, w_deck, x_deck, x_most, x_far, rfl, P0, f_deck, hk⟩ := h
    have nd := sc_law_tree.nd
    have hu64 := hr.units
    have hu128 := hu128_of hr
    have O := P0.start
    refine ⟨_, (pss_cons (ps_set (i := 3) nd rfl (Or.inl rfl) (pe_op op_add pe_int (pe_call G_law_take (hr.mono (by decide)) rfl M_law_take K_law_take B_law_take .nil (passes_call (takes_of rfl rfl rfl rfl) fun _ _ _ _ h => h) (pa_cons (pv 0) (pa_cons (pv 1) pa_nil)))))
  (pss_cons (ps_set (i := 4) nd rfl (Or.inl rfl) (pe_call G_law_order (hr.mono (by decide)) rfl M_law_order K_law_order B_law_order .nil (passes_call (takes_of rfl rfl rfl rfl) fun _ _ _ _ h => h) (pa_cons (pv 0) (pa_cons (pv 3) pa_nil))))
  (pss_cons (ps_set (i := 5) nd rfl (Or.inl rfl) (pe_call G_law_take (hr.mono (by decide)) rfl M_law_take K_law_take B_law_take .nil (passes_call (takes_of rfl rfl rfl rfl) fun _ _ _ _ h => h) (pa_cons (pv 0) (pa_cons pe_int pa_nil))))
  (pss_cons (ps_set (i := 6) nd rfl (Or.inl rfl) (pe_lst pa_nil))
  (pss_cons (ps_for (passes_of rfl) rfl (pi_range2 rfl nb.b_range (pa_cons pe_int (pa_cons (pv 3) pa_nil))) (pg_name (i := 7) nd rfl (Or.inl rfl)) (pss_cons (ps_set (i := 8) nd rfl (Or.inl rfl) (pe_ix (ixListK (K := K) rfl) (pe_lst (pa_cons (pe_call G_law_take (hr.mono (by decide)) rfl M_law_take K_law_take B_law_take .nil (passes_call (takes_of rfl rfl rfl rfl) fun _ _ _ _ h => h) (pa_cons (pv 0) (pa_cons (pv 7) pa_nil))) (pa_cons (pe_op op_sub (pv 7) pe_int) (pa_cons pe_int (pa_cons (pe_callB (call_max2 rfl) (by rfl) nb.b_max (by decide +kernel) (pa_cons pe_int (pa_cons (pe_op op_sub (pe_op op_sub (pv 7) pe_int) (pe_call G_law_take (hr.mono (by decide)) rfl M_law_take K_law_take B_law_take .nil (passes_call (takes_of rfl rfl rfl rfl) fun _ _ _ _ h => h) (pa_cons (pv 0) (pa_cons pe_int pa_nil)))) pa_nil))) (pa_cons (pe_call G_law_take (hr.mono (by decide)) rfl M_law_take K_law_take B_law_take .nil (passes_call (takes_of rfl rfl rfl rfl) fun _ _ _ _ h => h) (pa_cons (pv 0) (pa_cons (pv 7) pa_nil))) pa_nil)))))) (pv 5) (fun _ _ => rfl)))
  (pss_cons (ps_set (i := 9) nd rfl (Or.inl rfl) (pe_callB (cr_sortedT Int hu128) (by rfl) nb.b_sorted (by decide +kernel) (pa_cons (pe_lst (pa_cons (pe_ix (ixListK (K := K) rfl) (pv 4) (pv 7) (fun _ _ => rfl)) (pa_cons (pe_ix (ixListK (K := K) rfl) (pv 4) (pv 8) (fun _ _ => rfl)) pa_nil))) pa_nil)))
  (pss_one (ps_expr (pe_bm PySem.F.plainAttrs_list PySem.F.slot_list_append PySem.F.type_list_append mt_append (pv 6) (pa_cons (pe_tup (pa_cons (pe_ix (ixListK (K := K) rfl) (pv 9) pe_int (fun _ _ => rfl)) (pa_cons (pe_ix (ixListK (K := K) rfl) (pv 9) pe_int (fun _ _ => rfl)) (pa_cons (pe_call G_law_number (hr.mono (by decide)) rfl M_law_number K_law_number B_law_number .nil (passes_call (takes_of rfl rfl rfl rfl) fun _ _ _ _ h => h) (pa_cons (pv 0) (pa_cons (pv 2) pa_nil))) pa_nil)))) pa_nil)))))))
  (pss_one (ps_ret (pe_tup (pa_cons (pe_lc (own := [("k", 7)]) (g := gName 7) (tt := _) rfl nd (pi_range1 rfl nb.b_range (pa_cons (pv 3) pa_nil)) (blkOk_by (own := [("k", 7)]) (N := ["deck", "most", "far", "many", "order", "kind", "ties", "k", "at", "pair"]) (sc := defScope s_law_tree) (by decide +kernel)) (fun _ _ _ _ _ => (pg_name (i := 7) nd rfl (Or.inl rfl))) (fun _ _ _ _ _ => pts_nil) (fun _ _ _ _ _ => (pe_call G_law_number (hr.mono (by decide)) rfl M_law_number K_law_number B_law_number .nil passL (pa_cons (pv 0) (pa_cons (pv 2) pa_nil))))) (pa_cons (pe_callB (cr_sortedT (T3 Int Int Int) hu128) (by rfl) nb.b_sorted (by decide +kernel) (pa_cons (pv 6) pa_nil)) pa_nil)))))))))), ?_⟩
    refine ⟨_, rfl, _, rfl, _, _, _, _, _, rfl, (O.pre1 0 rfl), f_deck, wp_call hk (fun r1 er2 hk F3 H4 w6 g5 h7 hl8 => ?_) (fun n hn C H1 hC kp => hn C H1 hC (O.kp1 kp 0 rfl))⟩
    have O9 := O.call1 g5 0 rfl h7
    have S_ := g5.f
    refine ⟨_, _, rfl, rfl, _, rfl, _, rfl, _, _, _, _, _, rfl, (O9.pre1 0 rfl), hl8, wp_call hk (fun r10 er11 hk F12 H13 w15 g14 h16 hl17 p18 w19 hn20 hf21 h22 hl23 => ?_) (fun n hn C H1 hC kp => hn C H1 hC (O9.kp1 kp 0 rfl))⟩
    have O24 := O9.call1 g14 0 rfl h16
    have S_ := g14.f
    have O25 := O9.got O24 rfl hn20 hf21 h22
    have z26 := O9.was hn20
    obtain ⟨F27, O28, S29, h30⟩ := O25.frzE 0 rfl z26
    have hl17 := hl17.mono S29
    have hl23 := hl23.mono S29
    have h31 := R.lst (a := Int) h30 hl23
    refine ⟨_, rfl, _, _, _, _, _, rfl, (O28.pre1 0 rfl), hl17, wp_call hk (fun r32 er33 hk F34 H35 w37 g36 h38 hl39 => ?_) (fun n hn C H1 hC kp => hn C H1 hC (O28.kp1 kp 0 rfl))⟩
    have O40 := O28.call1 g36 0 rfl h38
    have S_ := g36.f
    have h31 := h31.mono S_
    refine ⟨(by show 0 ≤ sizeLine; decide), fun p42 hp43 => ?_⟩
    have hl45 : RL (a := (T3 Int Int Int)) F34 ([]) ([] : List (T3 Int Int Int)) := RL.nil
    have z46 := O40.was hp43
    have O44 := O40.new (o := .lst ([])) hp43
    obtain ⟨c48, hk⟩ := wp_chk hk
    obtain ⟨c49, hk⟩ := wp_chk hk
    obtain ⟨L50, hL51, hLs52, hLd53⟩ := loopN_L hk
    refine ⟨_, rfl, _, _, rfl, ⟨c48.lo, c48.hi, c49.lo, c49.hi⟩, ?_⟩
    refine for_range (lo := (1 : Int)) (n := (((1 : Int) + r1.1) - (1 : Int)).toNat) (fun i σ H => ∃ (F_ : Hp) (st : (List Int) × (List (T3 Int Int Int))) (w_0 : (List V)) (w_1 : (List V)) (t_0 : Option V) (t_1 : Option V) (t_2 : Option V), σ = [some (V.ref a_deck), some (V.int x_most), some (V.int x_far), some (V.int ((1 : Int) + r1.1)), some (V.ref p18), some (V.int r32.1), some (V.ref p42), t_0, t_1, t_2] ∧ Same F34 F_ ∧ Ow _ F_ [(p42, .lst w_1), (a_deck, .lst w_0)] H ∧ RL (a := Int) F_ w_0 st.1 ∧ RL (a := (T3 Int Int Int)) F_ w_1 st.2 ∧ L50 (List.drop i (rangeL (1 : Int) ((1 : Int) + r1.1))) st) ⟨F34, (r32.2, ([] : List (T3 Int Int Int))), w37, [], none, none, none, rfl, Same.refl _, O44, hl39, hl45, hL51⟩ ?_ ?_
    · rintro i54 sg56 H57 hi58 ⟨F68, st60, w61, w62, t65, t66, t67, rfl, S59, O69, hl63, hl64, hL51⟩
      have h31 := h31.mono S59
      rw [rangeL_get hi58] at hL51
      have hk := hLs52 _ _ _ hL51
      obtain ⟨y47, he_⟩ : ∃ z_, z_ = (1 : Int) + (i54 : Int) := ⟨_, rfl⟩
      try rw [← he_] at hk
      rw [← he_]
      refine ⟨_, rfl, _, rfl, _, _, _, _, _, rfl, (O69.pre1 1 rfl), hl63, wp_call hk (fun r70 er71 hk F72 H73 w75 g74 h76 hl77 => ?_) (fun n hn C H1 hC kp => hn C H1 hC (O69.kp1 kp 1 rfl))⟩
      have O78 := O69.call1 g74 1 rfl h76
      have S_ := g74.f
      have h31 := h31.mono S_
      have hl64 := hl64.mono S_
      have S59 := S59.trans S_
      refine ⟨_, rfl, _, _, rfl, rfl, _, rfl, _, _, rfl, rfl, _, rfl, _, _, _, _, _, rfl, (O78.pre1 1 rfl), hl77, wp_call hk (fun r79 er80 hk F81 H82 w84 g83 h85 hl86 => ?_) (fun n hn C H1 hC kp => hn C H1 hC (O78.kp1 kp 1 rfl))⟩
      have O87 := O78.call1 g83 1 rfl h85
      have S_ := g83.f
      have h31 := h31.mono S_
      have hl64 := hl64.mono S_
      have S59 := S59.trans S_
      refine ⟨_, _, rfl, rfl, _, _, rfl, _, rfl, _, rfl, _, _, _, _, _, rfl, (O87.pre1 1 rfl), hl86, wp_call hk (fun r88 er89 hk F90 H91 w93 g92 h94 hl95 => ?_) (fun n hn C H1 hC kp => hn C H1 hC (O87.kp1 kp 1 rfl))⟩
      have O96 := O87.call1 g92 1 rfl h94
      have S_ := g92.f
      have h31 := h31.mono S_
      have hl64 := hl64.mono S_
      have S59 := S59.trans S_
      refine ⟨(by show 5 ≤ sizeLine; decide), fun p97 hp98 => ?_⟩
      have hl104 : RL (a := Int) F90 ([V.int r70.1, V.int (y47 - (1 : Int)), V.int (0 : Int), V.int (if ((y47 - (1 : Int)) - r79.1) > (0 : Int) then ((y47 - (1 : Int)) - r79.1) else (0 : Int)), V.int r88.1]) ([r70.1, (y47 - (1 : Int)), (0 : Int), (if ((y47 - (1 : Int)) - r79.1) > (0 : Int) then ((y47 - (1 : Int)) - r79.1) else (0 : Int)), r88.1]) := RL.cons R.int (RL.cons R.int (RL.cons R.int (RL.cons R.int (RL.cons R.int RL.nil))))
      obtain ⟨F99, O100, S101, h102⟩ := O96.putE hp98 (.lst ([V.int r70.1, V.int (y47 - (1 : Int)), V.int (0 : Int), V.int (if ((y47 - (1 : Int)) - r79.1) > (0 : Int) then ((y47 - (1 : Int)) - r79.1) else (0 : Int)), V.int r88.1]))
      have h31 := h31.mono S101
      have hl64 := hl64.mono S101
      have S59 := S59.trans S101
      have hl95 := hl95.mono S101
      have hl104 := hl104.mono S101
      have h103 := R.lst (a := Int) h102 hl104
      obtain ⟨p105, w106, e107, h108, hl109⟩ := R.lst_ h103
      cases e107
      obtain ⟨y110, e111, hk⟩ := wp_opt hk
      obtain ⟨w112, e113, r114⟩ := hl109.atI e111
      obtain rfl := R.int_ r114
      obtain ⟨p115, w116, e117, h118, hl119⟩ := R.lst_ h31
      cases e117
      obtain ⟨y120, e121, hk⟩ := wp_opt hk
      obtain ⟨w122, e123, r124⟩ := hl119.atI e121
      obtain rfl := R.int_ r124
      obtain ⟨p125, w126, e127, h128, hl129⟩ := R.lst_ h31
      cases e127
      obtain ⟨y130, e131, hk⟩ := wp_opt hk
      obtain ⟨w132, e133, r134⟩ := hl129.atI e131
      obtain rfl := R.int_ r134
      refine ⟨_, rfl, _, _, _, _, rfl, rfl, (SqLF O100.s h108), e113, _, rfl, _, rfl, _, _, _, _, rfl, rfl, (SqLF O100.s h118), e123, _, rfl, _, rfl, _, _, _, _, rfl, rfl, (SqLF O100.s h128), e133, (by show 2 ≤ sizeLine; decide), fun p135 hp136 => ?_⟩
      have hl142 : RL (a := Int) F99 ([V.int y120, V.int y130]) ([y120, y130]) := RL.cons R.int (RL.cons R.int RL.nil)
      obtain ⟨F137, O138, S139, h140⟩ := O100.putE hp136 (.lst ([V.int y120, V.int y130]))
      have h31 := h31.mono S139
      have hl64 := hl64.mono S139
      have S59 := S59.trans S139
      have hl95 := hl95.mono S139
      have h103 := h103.mono S139
      have h108 := S139 _ _ h108
      have hl109 := hl109.mono S139
      have h118 := S139 _ _ h118
      have hl119 := hl119.mono S139
      have h128 := S139 _ _ h128
      have hl129 := hl129.mono S139
      have hl142 := hl142.mono S139
      have h141 := R.lst (a := Int) h140 hl142
      obtain ⟨p143, w144, e145, h146, hl147⟩ := R.lst_ h141
      cases e145
      refine ⟨_, _, _, rfl, (O138.s _ _ h146), (RL.mono hl147 O138.s), fun p148 hp149 => ?_⟩
      have hl155 : RL (a := Int) F137 (sortV w144 ([y120, y130])) (sortT ([y120, y130])) := (RL.sorted hl147)
      obtain ⟨F150, O151, S152, h153⟩ := O138.putE hp149 (.lst (sortV w144 ([y120, y130])))
      have h31 := h31.mono S152
      have hl64 := hl64.mono S152
      have S59 := S59.trans S152
      have hl95 := hl95.mono S152
      have h103 := h103.mono S152
      have h108 := S152 _ _ h108
      have hl109 := hl109.mono S152
      have h118 := S152 _ _ h118
      have hl119 := hl119.mono S152
      have h128 := S152 _ _ h128
      have hl129 := hl129.mono S152
      have h141 := h141.mono S152
      have h146 := S152 _ _ h146
      have hl147 := hl147.mono S152
      have hl155 := hl155.mono S152
      have h154 := R.lst (a := Int) h153 hl155
      obtain ⟨p156, w157, e158, h159, hl160⟩ := R.lst_ h154
      cases e158
      obtain ⟨y161, e162, hk⟩ := wp_opt hk
      obtain ⟨w163, e164, r165⟩ := hl160.atI e162
      obtain rfl := R.int_ r165
      obtain ⟨p166, w167, e168, h169, hl170⟩ := R.lst_ h154
      cases e168
      obtain ⟨y171, e172, hk⟩ := wp_opt hk
      obtain ⟨w173, e174, r175⟩ := hl170.atI e172
      obtain rfl := R.int_ r175
      refine ⟨_, rfl, (.inl ⟨rfl, _, SqL.of (O151.at 0 rfl)⟩), _, rfl, _, _, _, _, rfl, rfl, (SqLF O151.s h159), e164, _, rfl, _, _, _, _, rfl, rfl, (SqLF O151.s h169), e174, _, rfl, _, rfl, _, _, _, _, _, rfl, (O151.pre1 1 rfl), hl95, wp_call hk (fun r176 er177 hk F178 H179 w181 g180 h182 hl183 => ?_) (fun n hn C H1 hC kp => hn C H1 hC (O151.kp1 kp 1 rfl))⟩
      have O184 := O151.call1 g180 1 rfl h182
      have S_ := g180.f
      have h31 := h31.mono S_
      have hl64 := hl64.mono S_
      have S59 := S59.trans S_
      have h103 := h103.mono S_
      have h108 := S_ _ _ h108
      have hl109 := hl109.mono S_
      have h118 := S_ _ _ h118
      have hl119 := hl119.mono S_
      have h128 := S_ _ _ h128
      have hl129 := hl129.mono S_
      have h141 := h141.mono S_
      have h146 := S_ _ _ h146
      have hl147 := hl147.mono S_
      have h154 := h154.mono S_
      have h159 := S_ _ _ h159
      have hl160 := hl160.mono S_
      have h169 := S_ _ _ h169
      have hl170 := hl170.mono S_
      refine ⟨(by show 3 ≤ sizeLine; decide), fun p185 hp186 => ?_⟩
      obtain ⟨F187, O188, S189, h190⟩ := O184.putE hp186 (.tup [V.int y161, V.int y171, V.int r176.1])
      have h31 := h31.mono S189
      have hl64 := hl64.mono S189
      have S59 := S59.trans S189
      have h103 := h103.mono S189
      have h108 := S189 _ _ h108
      have hl109 := hl109.mono S189
      have h118 := S189 _ _ h118
      have hl119 := hl119.mono S189
      have h128 := S189 _ _ h128
      have hl129 := hl129.mono S189
      have h141 := h141.mono S189
      have h146 := S189 _ _ h146
      have hl147 := hl147.mono S189
      have h154 := h154.mono S189
      have h159 := S189 _ _ h159
      have hl160 := hl160.mono S189
      have h169 := S189 _ _ h169
      have hl170 := hl170.mono S189
      have hl183 := hl183.mono S189
      have h191 : R (a := (T3 Int Int Int)) F187 (.ref p185) (T3.mk y161 y171 r176.1) := R.t3 h190 R.int R.int R.int
      obtain ⟨c192, hk⟩ := wp_appL hk
      refine ⟨_, _, _, rfl, rfl, (O188.at 0 rfl), (by rw [hl64.len]; exact c192), ?_⟩
      have O194 := O188.set 0 (.lst (w62 ++ [V.ref p185])) rfl
      have hl195 : RL (a := (T3 Int Int Int)) F187 (w62 ++ [V.ref p185]) (st60.2 ++ [(T3.mk y161 y171 r176.1)]) := RL.snoc hl64 h191
      exact ⟨F187, (r176.2, (st60.2 ++ [(T3.mk y161 y171 r176.1)])), w181, (w62 ++ [V.ref p185]), some (V.int y47), some (V.int y110), some (V.ref p148), rfl, S59, O194, hl183, hl195, hk⟩
    rintro sg196 H197 ⟨F208, st199, w201, w202, t205, t206, t207, rfl, S198, O209, hl203, hl204, hL200⟩
    rw [rangeL_end] at hL200
    have hk := hLd53 _ hL200
    have h31 := h31.mono S198
    obtain ⟨c211, hk⟩ := wp_chk hk
    obtain ⟨c216, L212, hL213, hLs214, hLd215⟩ := compS_L hk
    refine ⟨_, rfl, _, rfl, c211.lo, c211.hi, fun p217 hp218 => ?_⟩
    have z243 := O209.was hp218
    refine lc_range (lo := 0) (n := (((1 : Int) + r1.1)).toNat) (fun i H => ∃ (F_ : Hp) (st : (List Int)) (acc : List Int) (wa : List V) (w_0 : (List V)), Same F208 F_ ∧ Ow _ F_ [(p217, .lst wa), (p42, .lst w202), (a_deck, .lst w_0)] H ∧ RL F_ wa acc ∧ RL (a := Int) F_ w_0 st ∧ wa.length ≤ i ∧ L212 (List.drop i (rangeL 0 ((1 : Int) + r1.1))) acc st) ⟨F208, st199.1, [], [], w201, Same.refl _, O209.new hp218, RL.nil, hl203, Nat.zero_le _, hL213⟩ ?_ ?_
    · rintro i219 H221 hi222 ⟨F227, st228, acc224, wa225, w230, S229, O233, hl232, hl231, la226, hL213⟩
      have h31 := h31.mono S229
      have hl204 := hl204.mono S229
      rw [rangeL_get0 hi222] at hL213
      have hk := hLs214 _ _ _ _ hL213
      obtain ⟨y210, he_⟩ : ∃ z_, z_ = 0 + (i219 : Int) := ⟨_, rfl⟩
      try rw [← he_] at hk
      rw [← he_]
      refine ⟨rfl, ?_⟩
      refine ⟨_, rfl, _, rfl, _, _, _, _, _, rfl, (O233.pre1 2 rfl), hl231, wp_call hk (fun r234 er235 hk F236 H237 w239 g238 h240 hl241 => ?_) (fun n hn => hn.elim)⟩
      have O242 := O233.call1 g238 2 rfl h240
      have S_ := g238.f
      have h31 := h31.mono S_
      have hl204 := hl204.mono S_
      have S229 := S229.trans S_
      have hl232 := hl232.mono S_
      refine ⟨_, (O242.at 0 rfl), (comp_lenR la226 hi222 (by rw [Int.sub_zero]) c216), ?_⟩
      exact ⟨F236, r234.2, acc224 ++ [r234.1], wa225 ++ [V.int r234.1], w239, S229, O242.set 0 (.lst (wa225 ++ [V.int r234.1])) rfl, RL.snoc hl232 R.int, hl241, by rw [List.length_append]; exact Nat.succ_le_succ la226, hk⟩
    rintro H244 ⟨F245, st246, acc247, wa248, w254, S249, O250, hl251, hl255, la252, hL253⟩
    rw [rangeL_end0] at hL253
    have hk := hLd215 _ _ hL253
    have h31 := h31.mono S249
    have hl204 := hl204.mono S249
    obtain ⟨F257, O258, S259, h260⟩ := O250.frzE 0 rfl z243
    have h31 := h31.mono S259
    have hl204 := hl204.mono S259
    have hl255 := hl255.mono S259
    have hl251 := hl251.mono S259
    have h261 := R.lst (a := Int) h260 hl251
    refine ⟨_, rfl, _, _, _, rfl, (O258.at 0 rfl), (RL.mono hl204 O258.s), fun p262 hp263 => ?_⟩
    have hl269 : RL (a := (T3 Int Int Int)) F257 (sortV w202 st199.2) (sortT st199.2) := (RL.sorted hl204)
    obtain ⟨F264, O265, S266, h267⟩ := O258.putE hp263 (.lst (sortV w202 st199.2))
    have h31 := h31.mono S266
    have hl204 := hl204.mono S266
    have hl255 := hl255.mono S266
    have h261 := h261.mono S266
    have hl269 := hl269.mono S266
    have h268 := R.lst (a := (T3 Int Int Int)) h267 hl269
    refine ⟨(by show 2 ≤ sizeLine; decide), fun p270 hp271 => ?_⟩
    obtain ⟨F272, O273, S274, h275⟩ := O265.putE hp271 (.tup [V.ref p217, V.ref p262])
    have h31 := h31.mono S274
    have hl204 := hl204.mono S274
    have hl255 := hl255.mono S274
    have h261 := h261.mono S274
    have h268 := h268.mono S274
    have h276 : R (a := ((List Int) × (List (T3 Int Int Int)))) F272 (.ref p270) (acc247, (sortT st199.2)) := R.t2 h275 h261 h268
    exact hk _ _ w254 O273.g (O273.at 1 rfl) hl255 _ h276
abbrev s_law_part : Stmt := top 36
theorem sc_law_part : FnScope ["deck", "leaves", "many", "deep", "way", "one", "leaf"] ["deck", "leaves", "many", "deep"] (defScope s_law_part) := ⟨rfl, rfl, rfl, by decide +kernel, rfl, by decide +kernel, by decide +kernel⟩
def m_law_part : Nat → (List Int) → (List Str) → Int → Int → M (Sm × (List Int))
  | 0, _, _, _, _ => bad
  | k_ + 1, x_deck, x_leaves, x_many, x_deep =>
    m_law_take x_deck (6 : Int) >>= fun r1 =>
    if x_deep = (0 : Int) then (
    m_law_take r1.2 (x_leaves.length : Int) >>= fun r16 =>
    opt (atI x_leaves r16.1) >>= fun y30 =>
    m_law_take r16.2 x_many >>= fun r42 =>
    opt (atI ([(Sm.nam y30), (Sm.num (y30, r42.1).1 (y30, r42.1).2)]) (if (decide (y30 ∈ ([(("so" : Str), ("more" : Str)).1, (("so" : Str), ("more" : Str)).2]))) = true then (1 : Int) else 0)) >>= fun y85 =>
    .ok (y85, r42.2))
    else (
    if r1.1 < (2 : Int) then (
    m_law_take r1.2 (x_leaves.length : Int) >>= fun r96 =>
    opt (atI x_leaves r96.1) >>= fun y110 =>
    m_law_take r96.2 x_many >>= fun r122 =>
    opt (atI ([(Sm.nam y110), (Sm.num (y110, r122.1).1 (y110, r122.1).2)]) (if (decide (y110 ∈ ([(("so" : Str), ("more" : Str)).1, (("so" : Str), ("more" : Str)).2]))) = true then (1 : Int) else 0)) >>= fun y165 =>
    .ok (y165, r122.2))
    else (
    m_law_part k_ r1.2 x_leaves x_many (x_deep - (1 : Int)) >>= fun r170 =>
    opt (atI ([("plus" : Str), ("less" : Str), ("most" : Str), ("least" : Str)]) (r1.1 - (2 : Int))) >>= fun y194 =>
    m_law_part k_ r170.2 x_leaves x_many (x_deep - (1 : Int)) >>= fun r199 =>
    .ok ((Sm.two (T3.mk y194 r170.1 r199.1).a (T3.mk y194 r170.1 r199.1).b (T3.mk y194 r170.1 r199.1).c), r199.2)))
def sp_law_part (k_ : Nat) (mg : Str → Option Value) : Sp := fun vs H Q E => ∃ (F : Hp) (a_deck : Addr) (w_deck : (List V)) (x_deck : (List Int)) (v_leaves : V) (x_leaves : (List Str)) (x_many : Int) (x_deep : Int), vs = [.ref a_deck, v_leaves, V.int x_many, V.int x_deep] ∧ Pre F [(a_deck, .lst w_deck)] H ∧ RL (a := Int) F w_deck x_deck ∧ R (a := (List Str)) F v_leaves x_leaves ∧
  wp (m_law_part k_ x_deck x_leaves x_many x_deep) (fun r => ∀ (F' H' : Hp) (w0 : (List V)), Gr [a_deck] F H F' H' → H' a_deck = some (.lst w0) → RL (a := Int) F' w0 r.2 → ∀ v : V, R (a := Sm) F' v r.1 → Q v H')
  (fun n => ∀ (C : Addr) (H' : Hp), mg (Str.ofString n) = some (.ref C) → Kp [a_deck] H H' → E (.ref C) none H')
set_option maxHeartbeats 2000000 in
theorem ok_law_part (nb : Nb mg) (C_law_take : Ca P w K mg base "_law_take" 1 ["deck", "many"] (sp_law_take mg)) (D : Df K mg "_law_part" "_law_part" s_law_part ["deck", "leaves", "many", "deep"]) : ∀ k_ : Nat, Ca P w K mg base "_law_part" (k_ + 2) ["deck", "leaves", "many", "deep"] (sp_law_part k_ mg) := by
  intro k_
  induction k_ with
  | zero =>
    refine Ca.mk' D sc_law_part (fun vs H Q E h => ?_) (fun q_ f_ cdv A outer s H vs Q E hr h => ?_)
    · obtain ⟨F, _, _, _, _, _, _, _, rfl, _⟩ := h
      rfl
    · obtain ⟨F, _, _, _, _, _, _, _, rfl, _, _, _, hk⟩ := h
      exact hk.elim
  | succ k_ ih_ =>
    have C_law_part := ih_
    obtain ⟨fa_law_take, fd_law_take, G_law_take, M_law_take, K_law_take, B_law_take⟩ := C_law_take.ex
    obtain ⟨fa_law_part, fd_law_part, G_law_part, M_law_part, K_law_part, B_law_part⟩ := C_law_part.ex
    refine Ca.mk' D sc_law_part (fun vs H Q E h => ?_) (fun q_ f_ cdv A outer s H vs Q E hr h => ?_)
    · obtain ⟨F, _, _, _, _, _, _, _, rfl, _⟩ := h
      rfl
    · obtain ⟨F, a_deck, w_deck, x_deck, v_leaves, x_leaves, x_many, x_deep, rfl, P0, f_deck, f_leaves, hk⟩ := h
      have nd := sc_law_part.nd
      have hu64 := hr.units
      have hu128 := hu128_of hr
      have O := P0.start
      refine ⟨_, (pss_cons (ps_set (i := 4) nd rfl (Or.inl rfl) (pe_call G_law_take (hr.mono (by omega)) rfl M_law_take K_law_take B_law_take .nil (passes_call (takes_of rfl rfl rfl rfl) fun _ _ _ _ h => h) (pa_cons (pv 0) (pa_cons pe_int pa_nil))))
  (pss_cons (ps_if (PW.pt (pw_or (pt_cmpR (op_eqT Int hu64) (pv 3) pe_int (nomark _)) (pw_or1 (pt_cmpR op_lt (pv 4) pe_int (nomark _))))) (pss_cons (ps_set (i := 6) nd rfl (Or.inl rfl) (pe_ix (ixListK (K := K) rfl) (pv 1) (pe_call G_law_take (hr.mono (by omega)) rfl M_law_take K_law_take B_law_take .nil (passes_call (takes_of rfl rfl rfl rfl) fun _ _ _ _ h => h) (pa_cons (pv 0) (pa_cons (pe_callB call_lenT (by rfl) nb.b_len PySem.boot_len (pa_cons (pv 1) pa_nil)) pa_nil))) (fun _ _ => rfl)))
  (pss_one (ps_ret (pe_ix (ixListK (K := K) rfl) (pe_lst (pa_cons (pe_tup (pa_cons (pv 6) pa_nil)) (pa_cons (pe_tup (pa_cons (pv 6) (pa_cons (pe_call G_law_take (hr.mono (by omega)) rfl M_law_take K_law_take B_law_take .nil (passes_call (takes_of rfl rfl rfl rfl) fun _ _ _ _ h => h) (pa_cons (pv 0) (pa_cons (pv 2) pa_nil))) pa_nil))) pa_nil))) (pe_callTy intB (by rfl) nb.b_int (by decide +kernel) (pa_cons (pe_cmpR (op_inT Str hu64) (pv 6) (pe_tup (pa_cons pe_str (pa_cons pe_str pa_nil))) rfl) pa_nil)) (fun _ _ => rfl))))) pss_nil)
  (pss_cons (ps_set (i := 5) nd rfl (Or.inl rfl) (pe_call G_law_part (hr.mono (by omega)) rfl M_law_part K_law_part B_law_part .nil (passes_call (takes_of rfl rfl rfl rfl) fun _ _ _ _ h => h) (pa_cons (pv 0) (pa_cons (pv 1) (pa_cons (pv 2) (pa_cons (pe_op op_sub (pv 3) pe_int) pa_nil))))))
  (pss_one (ps_ret (pe_tup (pa_cons (pe_ix (ixListK (K := K) rfl) (pe_lst (pa_cons pe_str (pa_cons pe_str (pa_cons pe_str (pa_cons pe_str pa_nil))))) (pe_op op_sub (pv 4) pe_int) (fun _ _ => rfl)) (pa_cons (pv 5) (pa_cons (pe_call G_law_part (hr.mono (by omega)) rfl M_law_part K_law_part B_law_part .nil (passes_call (takes_of rfl rfl rfl rfl) fun _ _ _ _ h => h) (pa_cons (pv 0) (pa_cons (pv 1) (pa_cons (pv 2) (pa_cons (pe_op op_sub (pv 3) pe_int) pa_nil))))) pa_nil))))))))), ?_⟩
      refine ⟨_, rfl, _, _, _, _, _, rfl, (O.pre1 0 rfl), f_deck, wp_call hk (fun r1 er2 hk F3 H4 w6 g5 h7 hl8 => ?_) (fun n hn C H1 hC kp => hn C H1 hC (O.kp1 kp 0 rfl))⟩
      have O9 := O.call1 g5 0 rfl h7
      have S_ := g5.f
      have f_leaves := f_leaves.mono S_
      refine ⟨_, rfl, _, _, R.int, R.int, _, rfl, ?_⟩
      refine iteD (fun q10 => ?_) (fun q10 => ?_)
      · have hk := wp_if hk q10
        refine iteT ?_
        obtain ⟨p11, w12, e13, h14, hl15⟩ := R.lst_ f_leaves
        cases e13
        refine ⟨_, rfl, _, rfl, _, rfl, _, _, _, rfl, (.inl (O9.s _ _ h14)), hl15.len, _, _, _, _, _, rfl, (O9.pre1 0 rfl), hl8, wp_call hk (fun r16 er17 hk F18 H19 w21 g20 h22 hl23 => ?_) (fun n hn C H1 hC kp => hn C H1 hC (O9.kp1 kp 0 rfl))⟩
        have O24 := O9.call1 g20 0 rfl h22
        have S_ := g20.f
        have f_leaves := f_leaves.mono S_
        have h14 := S_ _ _ h14
        have hl15 := hl15.mono S_
        obtain ⟨p25, w26, e27, h28, hl29⟩ := R.lst_ f_leaves
        cases e27
        obtain ⟨y30, e31, hk⟩ := wp_opt hk
        obtain ⟨w32, e33, r34⟩ := hl29.atI e31
        obtain rfl := R.str_ r34
        refine ⟨_, _, _, _, rfl, rfl, (SqLF O24.s h28), e33, _, rfl, (by show 1 ≤ sizeLine; decide), fun p35 hp36 => ?_⟩
        obtain ⟨F37, O38, S39, h40⟩ := O24.putE hp36 (.tup [V.str y30])
        have f_leaves := f_leaves.mono S39
        have h14 := S39 _ _ h14
        have hl15 := hl15.mono S39
        have hl23 := hl23.mono S39
        have h28 := S39 _ _ h28
        have hl29 := hl29.mono S39
        have h41 := R.of_nam h40
        refine ⟨_, rfl, _, rfl, _, rfl, _, _, _, _, _, rfl, (O38.pre1 0 rfl), hl23, wp_call hk (fun r42 er43 hk F44 H45 w47 g46 h48 hl49 => ?_) (fun n hn C H1 hC kp => hn C H1 hC (O38.kp1 kp 0 rfl))⟩
        have O50 := O38.call1 g46 0 rfl h48
        have S_ := g46.f
        have f_leaves := f_leaves.mono S_
        have h14 := S_ _ _ h14
        have hl15 := hl15.mono S_
        have h28 := S_ _ _ h28
        have hl29 := hl29.mono S_
        have h41 := h41.mono S_
        refine ⟨(by show 2 ≤ sizeLine; decide), fun p51 hp52 => ?_⟩
        obtain ⟨F53, O54, S55, h56⟩ := O50.putE hp52 (.tup [V.str y30, V.int r42.1])
        have f_leaves := f_leaves.mono S55
        have h14 := S55 _ _ h14
        have hl15 := hl15.mono S55
        have h28 := S55 _ _ h28
        have hl29 := hl29.mono S55
        have h41 := h41.mono S55
        have hl49 := hl49.mono S55
        have h57 : R (a := (Str × Int)) F53 (.ref p51) (y30, r42.1) := R.t2 h56 R.str R.int
        refine ⟨(by show 2 ≤ sizeLine; decide), fun p58 hp59 => ?_⟩
        have hl65 : RL (a := Sm) F53 ([V.ref p35, V.ref p51]) ([(Sm.nam y30), (Sm.num (y30, r42.1).1 (y30, r42.1).2)]) := RL.cons h41 (RL.cons (R.of_num h57) RL.nil)
        obtain ⟨F60, O61, S62, h63⟩ := O54.putE hp59 (.lst ([V.ref p35, V.ref p51]))
        have f_leaves := f_leaves.mono S62
        have h14 := S62 _ _ h14
        have hl15 := hl15.mono S62
        have h28 := S62 _ _ h28
        have hl29 := hl29.mono S62
        have h41 := h41.mono S62
        have hl49 := hl49.mono S62
        have h57 := h57.mono S62
        have hl65 := hl65.mono S62
        have h64 := R.lst (a := Sm) h63 hl65
        refine ⟨_, rfl, (by show 2 ≤ sizeLine; decide), fun p66 hp67 => ?_⟩
        obtain ⟨F68, O69, S70, h71⟩ := O61.putE hp67 (.tup [V.str ("so" : Str), V.str ("more" : Str)])
        have f_leaves := f_leaves.mono S70
        have h14 := S70 _ _ h14
        have hl15 := hl15.mono S70
        have h28 := S70 _ _ h28
        have hl29 := hl29.mono S70
        have h41 := h41.mono S70
        have hl49 := hl49.mono S70
        have h57 := h57.mono S70
        have h64 := h64.mono S70
        have h72 : R (a := (Str × Str)) F68 (.ref p66) (("so" : Str), ("more" : Str)) := R.t2 h71 R.str R.str
        obtain ⟨p73, v76, v77, e74, h75, r78, r79⟩ := R.t2_ h72
        cases e74
        obtain rfl := R.str_ r78
        obtain rfl := R.str_ r79
        obtain ⟨p80, w81, e82, h83, hl84⟩ := R.lst_ h64
        cases e82
        obtain ⟨y85, e86, hk⟩ := wp_opt hk
        obtain ⟨w87, e88, r89⟩ := hl84.atI e86
        refine ⟨_, _, _, _, R.str, rfl, (.inr (O69.s _ _ h75)), (RL.mono (RL.cons R.str (RL.cons R.str RL.nil)) O69.s), _, rfl, _, _, _, _, rfl, rfl, (SqLF O69.s h83), e88, ?_⟩
        exact hk _ _ w47 O69.g (O69.at 0 rfl) hl49 _ r89
      · have hk := wp_el hk q10
        refine ⟨_, rfl, _, _, rfl, rfl, _, rfl, ?_⟩
        refine iteD (fun q90 => ?_) (fun q90 => ?_)
        · have hk := wp_if hk q90
          obtain ⟨p91, w92, e93, h94, hl95⟩ := R.lst_ f_leaves
          cases e93
          refine ⟨_, rfl, _, rfl, _, rfl, _, _, _, rfl, (.inl (O9.s _ _ h94)), hl95.len, _, _, _, _, _, rfl, (O9.pre1 0 rfl), hl8, wp_call hk (fun r96 er97 hk F98 H99 w101 g100 h102 hl103 => ?_) (fun n hn C H1 hC kp => hn C H1 hC (O9.kp1 kp 0 rfl))⟩
          have O104 := O9.call1 g100 0 rfl h102
          have S_ := g100.f
          have f_leaves := f_leaves.mono S_
          have h94 := S_ _ _ h94
          have hl95 := hl95.mono S_
          obtain ⟨p105, w106, e107, h108, hl109⟩ := R.lst_ f_leaves
          cases e107
          obtain ⟨y110, e111, hk⟩ := wp_opt hk
          obtain ⟨w112, e113, r114⟩ := hl109.atI e111
          obtain rfl := R.str_ r114
          refine ⟨_, _, _, _, rfl, rfl, (SqLF O104.s h108), e113, _, rfl, (by show 1 ≤ sizeLine; decide), fun p115 hp116 => ?_⟩
          obtain ⟨F117, O118, S119, h120⟩ := O104.putE hp116 (.tup [V.str y110])
          have f_leaves := f_leaves.mono S119
          have h94 := S119 _ _ h94
          have hl95 := hl95.mono S119
          have hl103 := hl103.mono S119
          have h108 := S119 _ _ h108
          have hl109 := hl109.mono S119
          have h121 := R.of_nam h120
          refine ⟨_, rfl, _, rfl, _, rfl, _, _, _, _, _, rfl, (O118.pre1 0 rfl), hl103, wp_call hk (fun r122 er123 hk F124 H125 w127 g126 h128 hl129 => ?_) (fun n hn C H1 hC kp => hn C H1 hC (O118.kp1 kp 0 rfl))⟩
          have O130 := O118.call1 g126 0 rfl h128
          have S_ := g126.f
          have f_leaves := f_leaves.mono S_
          have h94 := S_ _ _ h94
          have hl95 := hl95.mono S_
          have h108 := S_ _ _ h108
          have hl109 := hl109.mono S_
          have h121 := h121.mono S_
          refine ⟨(by show 2 ≤ sizeLine; decide), fun p131 hp132 => ?_⟩
          obtain ⟨F133, O134, S135, h136⟩ := O130.putE hp132 (.tup [V.str y110, V.int r122.1])
          have f_leaves := f_leaves.mono S135
          have h94 := S135 _ _ h94
          have hl95 := hl95.mono S135
          have h108 := S135 _ _ h108
          have hl109 := hl109.mono S135
          have h121 := h121.mono S135
          have hl129 := hl129.mono S135
          have h137 : R (a := (Str × Int)) F133 (.ref p131) (y110, r122.1) := R.t2 h136 R.str R.int
          refine ⟨(by show 2 ≤ sizeLine; decide), fun p138 hp139 => ?_⟩
          have hl145 : RL (a := Sm) F133 ([V.ref p115, V.ref p131]) ([(Sm.nam y110), (Sm.num (y110, r122.1).1 (y110, r122.1).2)]) := RL.cons h121 (RL.cons (R.of_num h137) RL.nil)
          obtain ⟨F140, O141, S142, h143⟩ := O134.putE hp139 (.lst ([V.ref p115, V.ref p131]))
          have f_leaves := f_leaves.mono S142
          have h94 := S142 _ _ h94
          have hl95 := hl95.mono S142
          have h108 := S142 _ _ h108
          have hl109 := hl109.mono S142
          have h121 := h121.mono S142
          have hl129 := hl129.mono S142
          have h137 := h137.mono S142
          have hl145 := hl145.mono S142
          have h144 := R.lst (a := Sm) h143 hl145
          refine ⟨_, rfl, (by show 2 ≤ sizeLine; decide), fun p146 hp147 => ?_⟩
          obtain ⟨F148, O149, S150, h151⟩ := O141.putE hp147 (.tup [V.str ("so" : Str), V.str ("more" : Str)])
          have f_leaves := f_leaves.mono S150
          have h94 := S150 _ _ h94
          have hl95 := hl95.mono S150
          have h108 := S150 _ _ h108
          have hl109 := hl109.mono S150
          have h121 := h121.mono S150
          have hl129 := hl129.mono S150
          have h137 := h137.mono S150
          have h144 := h144.mono S150
          have h152 : R (a := (Str × Str)) F148 (.ref p146) (("so" : Str), ("more" : Str)) := R.t2 h151 R.str R.str
          obtain ⟨p153, v156, v157, e154, h155, r158, r159⟩ := R.t2_ h152
          cases e154
          obtain rfl := R.str_ r158
          obtain rfl := R.str_ r159
          obtain ⟨p160, w161, e162, h163, hl164⟩ := R.lst_ h144
          cases e162
          obtain ⟨y165, e166, hk⟩ := wp_opt hk
          obtain ⟨w167, e168, r169⟩ := hl164.atI e166
          refine ⟨_, _, _, _, R.str, rfl, (.inr (O149.s _ _ h155)), (RL.mono (RL.cons R.str (RL.cons R.str RL.nil)) O149.s), _, rfl, _, _, _, _, rfl, rfl, (SqLF O149.s h163), e168, ?_⟩
          exact hk _ _ w127 O149.g (O149.at 0 rfl) hl129 _ r169
        · have hk := wp_el hk q90
          refine ⟨_, rfl, _, rfl, _, rfl, _, rfl, _, _, rfl, rfl, _, _, _, _, _, _, _, _, rfl, (O9.pre1 0 rfl), hl8, f_leaves, wp_call hk (fun r170 er171 hk F172 H173 w175 g174 h176 hl177 v178 r179 => ?_) (fun n hn C H1 hC kp => hn C H1 hC (O9.kp1 kp 0 rfl))⟩
          have O180 := O9.call1 g174 0 rfl h176
          have S_ := g174.f
          have f_leaves := f_leaves.mono S_
          refine ⟨(by show 4 ≤ sizeLine; decide), fun p181 hp182 => ?_⟩
          have hl188 : RL (a := Str) F172 ([V.str ("plus" : Str), V.str ("less" : Str), V.str ("most" : Str), V.str ("least" : Str)]) ([("plus" : Str), ("less" : Str), ("most" : Str), ("least" : Str)]) := RL.cons R.str (RL.cons R.str (RL.cons R.str (RL.cons R.str RL.nil)))
          obtain ⟨F183, O184, S185, h186⟩ := O180.putE hp182 (.lst ([V.str ("plus" : Str), V.str ("less" : Str), V.str ("most" : Str), V.str ("least" : Str)]))
          have f_leaves := f_leaves.mono S185
          have hl177 := hl177.mono S185
          have r179 := r179.mono S185
          have hl188 := hl188.mono S185
          have h187 := R.lst (a := Str) h186 hl188
          obtain ⟨p189, w190, e191, h192, hl193⟩ := R.lst_ h187
          cases e191
          obtain ⟨y194, e195, hk⟩ := wp_opt hk
          obtain ⟨w196, e197, r198⟩ := hl193.atI e195
          obtain rfl := R.str_ r198
          refine ⟨_, rfl, _, _, rfl, rfl, _, _, _, _, rfl, rfl, (SqLF O184.s h192), e197, _, rfl, _, rfl, _, rfl, _, rfl, _, rfl, _, _, rfl, rfl, _, _, _, _, _, _, _, _, rfl, (O184.pre1 0 rfl), hl177, f_leaves, wp_call hk (fun r199 er200 hk F201 H202 w204 g203 h205 hl206 v207 r208 => ?_) (fun n hn C H1 hC kp => hn C H1 hC (O184.kp1 kp 0 rfl))⟩
          have O209 := O184.call1 g203 0 rfl h205
          have S_ := g203.f
          have f_leaves := f_leaves.mono S_
          have r179 := r179.mono S_
          have h187 := h187.mono S_
          have h192 := S_ _ _ h192
          have hl193 := hl193.mono S_
          refine ⟨(by show 3 ≤ sizeLine; decide), fun p210 hp211 => ?_⟩
          obtain ⟨F212, O213, S214, h215⟩ := O209.putE hp211 (.tup [V.str y194, v178, v207])
          have f_leaves := f_leaves.mono S214
          have r179 := r179.mono S214
          have h187 := h187.mono S214
          have h192 := S214 _ _ h192
          have hl193 := hl193.mono S214
          have hl206 := hl206.mono S214
          have r208 := r208.mono S214
          have h216 : R (a := (T3 Str Sm Sm)) F212 (.ref p210) (T3.mk y194 r170.1 r199.1) := R.t3 h215 R.str r179 r208
          exact hk _ _ w204 O213.g (O213.at 0 rfl) hl206 _ (R.of_two h216)
abbrev s_law_plain_rule : Stmt := top 37
theorem sc_law_plain_rule : FnScope ["deck", "many", "found", "leaves", "k"] ["deck"] (defScope s_law_plain_rule) := ⟨rfl, rfl, rfl, by decide +kernel, rfl, by decide +kernel, by decide +kernel⟩
def m_law_plain_rule (x_deck : (List Int)) : M ((T4 (List Sm) (List Sm) (List Sm) Sm) × (List Int)) :=
m_law_take x_deck (3 : Int) >>= fun r1 =>
loopN (fun (y53 : (List Str)) (st64 : (List (List Sm)) × (List Int)) =>
chk (okR ((1 : Int) + r1.1)) >>= fun _ =>
compS (fun (y74 : Int) (st92 : (List Int)) =>
m_law_part 5 st92 y53 ((1 : Int) + r1.1) (2 : Int) >>= fun r98 =>
.ok (some r98.1, r98.2)) (rangeL 0 ((1 : Int) + r1.1)) st64.2 >>= fun q122 =>
appL st64.1 q122.1 >>= fun _ =>
.ok ((st64.1 ++ [q122.1]), q122.2)) ([[("own" : Str)], [("more" : Str), ("own" : Str), ("tie" : Str)], [("so" : Str), ("own" : Str), ("more" : Str)]]) (([] : List (List Sm)), r1.2) >>= fun st135 =>
opt (atI st135.1 (0 : Int)) >>= fun y144 =>
opt (atI st135.1 (1 : Int)) >>= fun y149 =>
opt (atI st135.1 (2 : Int)) >>= fun y154 =>
m_law_part 5 st135.2 ([("so" : Str), ("own" : Str)]) ((1 : Int) + r1.1) (2 : Int) >>= fun r167 =>
.ok ((T4.mk y144 y149 y154 r167.1), r167.2)
def sp_law_plain_rule (mg : Str → Option Value) : Sp := fun vs H Q E => ∃ (F : Hp) (a_deck : Addr) (w_deck : (List V)) (x_deck : (List Int)), vs = [.ref a_deck] ∧ Pre F [(a_deck, .lst w_deck)] H ∧ RL (a := Int) F w_deck x_deck ∧
  wp (m_law_plain_rule x_deck) (fun r => ∀ (F' H' : Hp) (w0 : (List V)), Gr [a_deck] F H F' H' → H' a_deck = some (.lst w0) → RL (a := Int) F' w0 r.2 → ∀ v : V, R (a := (T4 (List Sm) (List Sm) (List Sm) Sm)) F' v r.1 → Q v H')
  (fun n => ∀ (C : Addr) (H' : Hp), mg (Str.ofString n) = some (.ref C) → Kp [a_deck] H H' → E (.ref C) none H')
set_option maxHeartbeats 2000000 in
theorem ok_law_plain_rule (nb : Nb mg) (C_law_part : Ca P w K mg base "_law_part" 7 ["deck", "leaves", "many", "deep"] (sp_law_part 5 mg)) (C_law_take : Ca P w K mg base "_law_take" 1 ["deck", "many"] (sp_law_take mg)) (D : Df K mg "_law_plain_rule" "_law_plain_rule" s_law_plain_rule ["deck"]) : Ca P w K mg base "_law_plain_rule" 8 ["deck"] (sp_law_plain_rule mg) := by
  obtain ⟨fa_law_part, fd_law_part, G_law_part, M_law_part, K_law_part, B_law_part⟩ := C_law_part.ex
  obtain ⟨fa_law_take, fd_law_take, G_law_take, M_law_take, K_law_take, B_law_take⟩ := C_law_take.ex
  refine Ca.mk' D sc_law_plain_rule (fun vs H Q E h => ?_) (fun q_ f_ cdv A outer s H vs Q E hr h => ?_)
  · obtain ⟨F, _, _, _, rfl, _⟩ := h
    rfl
  · obtain ⟨F, a_deck, w_deck, x_deck, rfl, P0, f_deck, hk⟩ := h
    have nd := sc_law_plain_rule.nd
    have hu64 := hr.units
    have hu128 := hu128_of hr
    have O := P0.start
    refine ⟨_, (pss_cons (ps_set (i := 1) nd rfl (Or.inr rfl) (pe_op op_add pe_int (pe_call G_law_take (hr.mono (by decide)) rfl M_law_take K_law_take B_law_take .nil (passes_call (takes_of rfl rfl rfl rfl) fun _ _ _ _ h => h) (pa_cons (pv 0) (pa_cons pe_int pa_nil)))))
  (pss_cons (ps_set (i := 2) nd rfl (Or.inl rfl) (pe_lst pa_nil))
  (pss_cons (ps_for (passes_of rfl) rfl (piListK (K := K) rfl (pe_lst (pa_cons (pe_lst (pa_cons pe_str pa_nil)) (pa_cons (pe_lst (pa_cons pe_str (pa_cons pe_str (pa_cons pe_str pa_nil)))) (pa_cons (pe_lst (pa_cons pe_str (pa_cons pe_str (pa_cons pe_str pa_nil)))) pa_nil))))) (pg_name (i := 3) nd rfl (Or.inr rfl)) (pss_one (ps_expr (pe_bm PySem.F.plainAttrs_list PySem.F.slot_list_append PySem.F.type_list_append mt_append (pv 2) (pa_cons (pe_lc (own := [("k", 4)]) (g := gName 4) (tt := _) rfl nd (pi_range1 rfl nb.b_range (pa_cons (pv 1) pa_nil)) (blkOk_by (own := [("k", 4)]) (N := ["deck", "many", "found", "leaves", "k"]) (sc := defScope s_law_plain_rule) (by decide +kernel)) (fun _ _ _ _ _ => (pg_name (i := 4) nd rfl (Or.inl rfl))) (fun _ _ _ _ _ => pts_nil) (fun _ _ _ _ _ => (pe_call G_law_part (hr.mono (by decide)) rfl M_law_part K_law_part B_law_part .nil passL (pa_cons (pv 0) (pa_cons (pv 3) (pa_cons (pv 1) (pa_cons pe_int pa_nil))))))) pa_nil)))))
  (pss_one (ps_ret (pe_tup (pa_cons (pe_ix (ixListK (K := K) rfl) (pv 2) pe_int (fun _ _ => rfl)) (pa_cons (pe_ix (ixListK (K := K) rfl) (pv 2) pe_int (fun _ _ => rfl)) (pa_cons (pe_ix (ixListK (K := K) rfl) (pv 2) pe_int (fun _ _ => rfl)) (pa_cons (pe_call G_law_part (hr.mono (by decide)) rfl M_law_part K_law_part B_law_part .nil (passes_call (takes_of rfl rfl rfl rfl) fun _ _ _ _ h => h) (pa_cons (pv 0) (pa_cons (pe_lst (pa_cons pe_str (pa_cons pe_str pa_nil))) (pa_cons (pv 1) (pa_cons pe_int pa_nil))))) pa_nil)))))))))), ?_⟩
    refine ⟨_, rfl, _, _, _, _, _, rfl, (O.pre1 0 rfl), f_deck, wp_call hk (fun r1 er2 hk F3 H4 w6 g5 h7 hl8 => ?_) (fun n hn C H1 hC kp => hn C H1 hC (O.kp1 kp 0 rfl))⟩
    have O9 := O.call1 g5 0 rfl h7
    have S_ := g5.f
    refine ⟨_, _, rfl, rfl, (by show 0 ≤ sizeLine; decide), fun p11 hp12 => ?_⟩
    have hl14 : RL (a := (List Sm)) F3 ([]) ([] : List (List Sm)) := RL.nil
    have z15 := O9.was hp12
    have O13 := O9.new (o := .lst ([])) hp12
    refine ⟨(by show 1 ≤ sizeLine; decide), fun p16 hp17 => ?_⟩
    have hl23 : RL (a := Str) F3 ([V.str ("own" : Str)]) ([("own" : Str)]) := RL.cons R.str RL.nil
    obtain ⟨F18, O19, S20, h21⟩ := O13.putE hp17 (.lst ([V.str ("own" : Str)]))
    have hl8 := hl8.mono S20
    have hl14 := hl14.mono S20
    have hl23 := hl23.mono S20
    have h22 := R.lst (a := Str) h21 hl23
    refine ⟨(by show 3 ≤ sizeLine; decide), fun p24 hp25 => ?_⟩
    have hl31 : RL (a := Str) F18 ([V.str ("more" : Str), V.str ("own" : Str), V.str ("tie" : Str)]) ([("more" : Str), ("own" : Str), ("tie" : Str)]) := RL.cons R.str (RL.cons R.str (RL.cons R.str RL.nil))
    obtain ⟨F26, O27, S28, h29⟩ := O19.putE hp25 (.lst ([V.str ("more" : Str), V.str ("own" : Str), V.str ("tie" : Str)]))
    have hl8 := hl8.mono S28
    have hl14 := hl14.mono S28
    have h22 := h22.mono S28
    have hl31 := hl31.mono S28
    have h30 := R.lst (a := Str) h29 hl31
    refine ⟨(by show 3 ≤ sizeLine; decide), fun p32 hp33 => ?_⟩
    have hl39 : RL (a := Str) F26 ([V.str ("so" : Str), V.str ("own" : Str), V.str ("more" : Str)]) ([("so" : Str), ("own" : Str), ("more" : Str)]) := RL.cons R.str (RL.cons R.str (RL.cons R.str RL.nil))
    obtain ⟨F34, O35, S36, h37⟩ := O27.putE hp33 (.lst ([V.str ("so" : Str), V.str ("own" : Str), V.str ("more" : Str)]))
    have hl8 := hl8.mono S36
    have hl14 := hl14.mono S36
    have h22 := h22.mono S36
    have h30 := h30.mono S36
    have hl39 := hl39.mono S36
    have h38 := R.lst (a := Str) h37 hl39
    refine ⟨(by show 3 ≤ sizeLine; decide), fun p40 hp41 => ?_⟩
    have hl47 : RL (a := (List Str)) F34 ([V.ref p16, V.ref p24, V.ref p32]) ([[("own" : Str)], [("more" : Str), ("own" : Str), ("tie" : Str)], [("so" : Str), ("own" : Str), ("more" : Str)]]) := RL.cons h22 (RL.cons h30 (RL.cons h38 RL.nil))
    obtain ⟨F42, O43, S44, h45⟩ := O35.putE hp41 (.lst ([V.ref p16, V.ref p24, V.ref p32]))
    have hl8 := hl8.mono S44
    have hl14 := hl14.mono S44
    have h22 := h22.mono S44
    have h30 := h30.mono S44
    have h38 := h38.mono S44
    have hl47 := hl47.mono S44
    have h46 := R.lst (a := (List Str)) h45 hl47
    obtain ⟨p48, w49, e50, h51, hl52⟩ := R.lst_ h46
    cases e50
    obtain ⟨L54, hL55, hLs56, hLd57⟩ := loopN_L hk
    refine ⟨_, rfl, ⟨_, (SqLF O43.s h51)⟩, ?_⟩
    refine for_list (K := K) (xs := w49) (fun i σ H => ∃ (F_ : Hp) (st : (List (List Sm)) × (List Int)) (w_0 : (List V)) (w_1 : (List V)) (t_0 : Option V), σ = [some (V.ref a_deck), some (V.int ((1 : Int) + r1.1)), some (V.ref p11), t_0, none] ∧ Same F42 F_ ∧ Ow _ F_ [(p11, .lst w_0), (a_deck, .lst w_1)] H ∧ RL (a := (List Sm)) F_ w_0 st.1 ∧ RL (a := Int) F_ w_1 st.2 ∧ L54 (List.drop i ([[("own" : Str)], [("more" : Str), ("own" : Str), ("tie" : Str)], [("so" : Str), ("own" : Str), ("more" : Str)]])) st) ⟨F42, (([] : List (List Sm)), r1.2), [], w6, none, rfl, Same.refl _, O43, hl14, hl8, hL55⟩ (fun i_ σ_ H_ _ hp_ => ?_) ?_ ?_
    · obtain ⟨_, _, _, _, _, _, hS_, hO_, _⟩ := hp_
      exact SqLF hO_.s (hS_ _ _ h51)
    · rintro i58 x59 sg60 H61 hi62 ⟨F70, st64, w65, w66, t69, rfl, S63, O71, hl67, hl68, hL55⟩
      have h22 := h22.mono S63
      have h30 := h30.mono S63
      have h38 := h38.mono S63
      have h46 := h46.mono S63
      have h51 := S63 _ _ h51
      have hl52 := hl52.mono S63
      obtain ⟨y53, e72, r73⟩ := RL.got hl52 hi62
      rw [drop_at e72] at hL55
      have hk := hLs56 _ _ _ hL55
      obtain ⟨c75, hk⟩ := wp_chk hk
      obtain ⟨c80, L76, hL77, hLs78, hLd79⟩ := compS_L hk
      refine ⟨_, rfl, (.inl ⟨rfl, _, SqL.of (O71.at 0 rfl)⟩), _, rfl, _, rfl, c75.lo, c75.hi, fun p81 hp82 => ?_⟩
      have z109 := O71.was hp82
      refine lc_range (lo := 0) (n := (((1 : Int) + r1.1)).toNat) (fun i H => ∃ (F_ : Hp) (st : (List Int)) (acc : List Sm) (wa : List V) (w_0 : (List V)), Same F70 F_ ∧ Ow _ F_ [(p81, .lst wa), (p11, .lst w65), (a_deck, .lst w_0)] H ∧ RL F_ wa acc ∧ RL (a := Int) F_ w_0 st ∧ wa.length ≤ i ∧ L76 (List.drop i (rangeL 0 ((1 : Int) + r1.1))) acc st) ⟨F70, st64.2, [], [], w66, Same.refl _, O71.new hp82, RL.nil, hl68, Nat.zero_le _, hL77⟩ ?_ ?_
      · rintro i83 H85 hi86 ⟨F91, st92, acc88, wa89, w94, S93, O97, hl96, hl95, la90, hL77⟩
        have h22 := h22.mono S93
        have h30 := h30.mono S93
        have h38 := h38.mono S93
        have h46 := h46.mono S93
        have h51 := S93 _ _ h51
        have hl52 := hl52.mono S93
        have hl67 := hl67.mono S93
        have S63 := S63.trans S93
        have r73 := r73.mono S93
        rw [rangeL_get0 hi86] at hL77
        have hk := hLs78 _ _ _ _ hL77
        obtain ⟨y74, he_⟩ : ∃ z_, z_ = 0 + (i83 : Int) := ⟨_, rfl⟩
        try rw [← he_] at hk
        rw [← he_]
        refine ⟨rfl, ?_⟩
        refine ⟨_, rfl, _, rfl, _, rfl, _, _, _, _, _, _, _, _, rfl, (O97.pre1 2 rfl), hl95, r73, wp_call hk (fun r98 er99 hk F100 H101 w103 g102 h104 hl105 v106 r107 => ?_) (fun n hn => hn.elim)⟩
        have O108 := O97.call1 g102 2 rfl h104
        have S_ := g102.f
        have h22 := h22.mono S_
        have h30 := h30.mono S_
        have h38 := h38.mono S_
        have h46 := h46.mono S_
        have h51 := S_ _ _ h51
        have hl52 := hl52.mono S_
        have hl67 := hl67.mono S_
        have S63 := S63.trans S_
        have r73 := r73.mono S_
        have S93 := S93.trans S_
        have hl96 := hl96.mono S_
        refine ⟨_, (O108.at 0 rfl), (comp_lenR la90 hi86 (by rw [Int.sub_zero]) c80), ?_⟩
        exact ⟨F100, r98.2, acc88 ++ [r98.1], wa89 ++ [v106], w103, S93, O108.set 0 (.lst (wa89 ++ [v106])) rfl, RL.snoc hl96 r107, hl105, by rw [List.length_append]; exact Nat.succ_le_succ la90, hk⟩
      rintro H110 ⟨F111, st112, acc113, wa114, w120, S115, O116, hl117, hl121, la118, hL119⟩
      rw [rangeL_end0] at hL119
      have hk := hLd79 _ _ hL119
      have h22 := h22.mono S115
      have h30 := h30.mono S115
      have h38 := h38.mono S115
      have h46 := h46.mono S115
      have h51 := S115 _ _ h51
      have hl52 := hl52.mono S115
      have hl67 := hl67.mono S115
      have S63 := S63.trans S115
      have r73 := r73.mono S115
      obtain ⟨F123, O124, S125, h126⟩ := O116.frzE 0 rfl z109
      have h22 := h22.mono S125
      have h30 := h30.mono S125
      have h38 := h38.mono S125
      have h46 := h46.mono S125
      have h51 := S125 _ _ h51
      have hl52 := hl52.mono S125
      have hl67 := hl67.mono S125
      have S63 := S63.trans S125
      have r73 := r73.mono S125
      have hl121 := hl121.mono S125
      have hl117 := hl117.mono S125
      have h127 := R.lst (a := Sm) h126 hl117
      obtain ⟨c128, hk⟩ := wp_appL hk
      refine ⟨_, _, _, rfl, rfl, (O124.at 0 rfl), (by rw [hl67.len]; exact c128), ?_⟩
      have O130 := O124.set 0 (.lst (w65 ++ [V.ref p81])) rfl
      have hl131 : RL (a := (List Sm)) F123 (w65 ++ [V.ref p81]) (st64.1 ++ [acc113]) := RL.snoc hl67 h127
      exact ⟨F123, ((st64.1 ++ [acc113]), st112), (w65 ++ [V.ref p81]), w120, some x59, rfl, S63, O130, hl131, hl121, hk⟩
    rintro sg132 H133 ⟨F142, st135, w137, w138, t141, rfl, S134, O143, hl139, hl140, hL136⟩
    rw [drop_end hl52.len] at hL136
    have hk := hLd57 _ hL136
    have h22 := h22.mono S134
    have h30 := h30.mono S134
    have h38 := h38.mono S134
    have h46 := h46.mono S134
    have h51 := S134 _ _ h51
    have hl52 := hl52.mono S134
    obtain ⟨y144, e145, hk⟩ := wp_opt hk
    obtain ⟨w146, e147, r148⟩ := hl139.atI e145
    obtain ⟨y149, e150, hk⟩ := wp_opt hk
    obtain ⟨w151, e152, r153⟩ := hl139.atI e150
    obtain ⟨y154, e155, hk⟩ := wp_opt hk
    obtain ⟨w156, e157, r158⟩ := hl139.atI e155
    refine ⟨_, rfl, _, _, _, _, rfl, rfl, (SqL.of (O143.at 0 rfl)), e147, _, rfl, _, _, _, _, rfl, rfl, (SqL.of (O143.at 0 rfl)), e152, _, rfl, _, _, _, _, rfl, rfl, (SqL.of (O143.at 0 rfl)), e157, _, rfl, (by show 2 ≤ sizeLine; decide), fun p159 hp160 => ?_⟩
    have hl166 : RL (a := Str) F142 ([V.str ("so" : Str), V.str ("own" : Str)]) ([("so" : Str), ("own" : Str)]) := RL.cons R.str (RL.cons R.str RL.nil)
    obtain ⟨F161, O162, S163, h164⟩ := O143.putE hp160 (.lst ([V.str ("so" : Str), V.str ("own" : Str)]))
    have h22 := h22.mono S163
    have h30 := h30.mono S163
    have h38 := h38.mono S163
    have h46 := h46.mono S163
    have h51 := S163 _ _ h51
    have hl52 := hl52.mono S163
    have hl139 := hl139.mono S163
    have hl140 := hl140.mono S163
    have r148 := r148.mono S163
    have r153 := r153.mono S163
    have r158 := r158.mono S163
    have hl166 := hl166.mono S163
    have h165 := R.lst (a := Str) h164 hl166
    refine ⟨_, rfl, _, _, _, _, _, _, _, _, rfl, (O162.pre1 1 rfl), hl140, h165, wp_call hk (fun r167 er168 hk F169 H170 w172 g171 h173 hl174 v175 r176 => ?_) (fun n hn C H1 hC kp => hn C H1 hC (O162.kp1 kp 1 rfl))⟩
    have O177 := O162.call1 g171 1 rfl h173
    have S_ := g171.f
    have h22 := h22.mono S_
    have h30 := h30.mono S_
    have h38 := h38.mono S_
    have h46 := h46.mono S_
    have h51 := S_ _ _ h51
    have hl52 := hl52.mono S_
    have hl139 := hl139.mono S_
    have r148 := r148.mono S_
    have r153 := r153.mono S_
    have r158 := r158.mono S_
    have h165 := h165.mono S_
    refine ⟨(by show 4 ≤ sizeLine; decide), fun p178 hp179 => ?_⟩
    obtain ⟨F180, O181, S182, h183⟩ := O177.putE hp179 (.tup [w146, w151, w156, v175])
    have h22 := h22.mono S182
    have h30 := h30.mono S182
    have h38 := h38.mono S182
    have h46 := h46.mono S182
    have h51 := S182 _ _ h51
    have hl52 := hl52.mono S182
    have hl139 := hl139.mono S182
    have r148 := r148.mono S182
    have r153 := r153.mono S182
    have r158 := r158.mono S182
    have h165 := h165.mono S182
    have hl174 := hl174.mono S182
    have r176 := r176.mono S182
    have h184 : R (a := (T4 (List Sm) (List Sm) (List Sm) Sm)) F180 (.ref p178) (T4.mk y144 y149 y154 r167.1) := R.t4 h183 r148 r153 r158 r176
    exact hk _ _ w172 O181.g (O181.at 1 rfl) hl174 _ h184
abbrev s_law_moved : Stmt := top 38
theorem sc_law_moved : FnScope ["tree", "by", "worth", "a", "b", "length"] ["tree", "by"] (defScope s_law_moved) := ⟨rfl, rfl, rfl, by decide +kernel, rfl, by decide +kernel, by decide +kernel⟩
def m_law_moved (x_tree : ((List Int) × (List (T3 Int Int Int)))) (x_by : Int) : M (((List Int) × (List (T3 Int Int Int)))) :=
compS (fun (y13 : Int) (st30 : Unit) =>
chk (CMulW x_by y13) >>= fun _ =>
.ok (some (x_by * y13), ())) x_tree.1 () >>= fun q48 =>
compS (fun (y59 : (T3 Int Int Int)) (st76 : Unit) =>
chk (CMulW x_by y59.c) >>= fun _ =>
.ok (some (T3.mk y59.a y59.b (x_by * y59.c)), ())) x_tree.2 () >>= fun q110 =>
.ok (q48.1, q110.1)
def sp_law_moved (mg : Str → Option Value) : Sp := fun vs H Q E => ∃ (F : Hp) (v_tree : V) (x_tree : ((List Int) × (List (T3 Int Int Int)))) (x_by : Int), vs = [v_tree, V.int x_by] ∧ Pre F [] H ∧ R (a := ((List Int) × (List (T3 Int Int Int)))) F v_tree x_tree ∧
  wp (m_law_moved x_tree x_by) (fun r => ∀ (F' H' : Hp), Gr [] F H F' H' → ∀ v : V, R (a := ((List Int) × (List (T3 Int Int Int)))) F' v r → Q v H')
  (fun n => ∀ (C : Addr) (H' : Hp), mg (Str.ofString n) = some (.ref C) → Kp [] H H' → E (.ref C) none H')
set_option maxHeartbeats 2000000 in
theorem ok_law_moved (nb : Nb mg) (D : Df K mg "_law_moved" "_law_moved" s_law_moved ["tree", "by"]) : Ca P w K mg base "_law_moved" 1 ["tree", "by"] (sp_law_moved mg) := by
  refine Ca.mk' D sc_law_moved (fun vs H Q E h => ?_) (fun q_ f_ cdv A outer s H vs Q E hr h => ?_)
  · obtain ⟨F, _, _, _, rfl, _⟩ := h
    rfl
  · obtain ⟨F, v_tree, x_tree, x_by, rfl, P0, f_tree, hk⟩ := h
    have nd := sc_law_moved.nd
    have hu64 := hr.units
    have hu128 := hu128_of hr
    have O := P0.start
    refine ⟨_, (pss_one (ps_ret (pe_tup (pa_cons (pe_lc (own := [("worth", 2)]) (g := gName 2) (tt := _) rfl nd (piListK (K := K) rfl (pe_ix (ixTupK (K := K) rfl) (pv 0) pe_int (fun _ _ => rfl))) (blkOk_by (own := [("worth", 2)]) (N := ["tree", "by", "worth", "a", "b", "length"]) (sc := defScope s_law_moved) (by decide +kernel)) (fun _ _ _ _ _ => (pg_name (i := 2) nd rfl (Or.inl rfl))) (fun _ _ _ _ _ => pts_nil) (fun _ _ _ _ _ => (pe_op op_mulW (pv 1) (pv 2)))) (pa_cons (pe_lc (own := [("a", 3), ("b", 4), ("length", 5)]) (g := gTup K 3 (gCons (gName 3) (gCons (gName 4) (gCons (gName 5) (gNil))))) (tt := _) rfl nd (piListK (K := K) rfl (pe_ix (ixTupK (K := K) rfl) (pv 0) pe_int (fun _ _ => rfl))) (blkOk_by (own := [("a", 3), ("b", 4), ("length", 5)]) (N := ["tree", "by", "worth", "a", "b", "length"]) (sc := defScope s_law_moved) (by decide +kernel)) (fun _ _ _ _ _ => (pg_tup rfl (pgs_cons (pg_name (i := 3) nd rfl (Or.inl rfl)) (pgs_cons (pg_name (i := 4) nd rfl (Or.inl rfl)) (pgs_cons (pg_name (i := 5) nd rfl (Or.inl rfl)) pgs_nil))))) (fun _ _ _ _ _ => pts_nil) (fun _ _ _ _ _ => (pe_tup (pa_cons (pv 3) (pa_cons (pv 4) (pa_cons (pe_op op_mulW (pv 1) (pv 5)) pa_nil)))))) pa_nil))))), ?_⟩
    obtain ⟨p1, v4, v5, e2, h3, r6, r7⟩ := R.t2_ f_tree
    cases e2
    obtain ⟨p8, w9, e10, h11, hl12⟩ := R.lst_ r6
    cases e10
    obtain ⟨c18, L14, hL15, hLs16, hLd17⟩ := compS_L hk
    refine ⟨_, rfl, _, _, _, _, rfl, rfl, (SqTF O.s h3), rfl, _, rfl, ⟨_, (SqLF O.s h11)⟩, fun p19 hp20 => ?_⟩
    have z37 := O.was hp20
    refine lc_list (K := K) (xs := w9) (fun i H => ∃ (F_ : Hp) (st : Unit) (acc : List Int) (wa : List V), Same F F_ ∧ Ow _ F_ [(p19, .lst wa)] H ∧ RL F_ wa acc ∧ wa.length ≤ i ∧ L14 (List.drop i x_tree.1) acc st) ⟨F, (), [], [], Same.refl _, O.new hp20, RL.nil, Nat.zero_le _, hL15⟩ (fun i_ H_ _ hp_ => ?_) ?_ ?_
    · obtain ⟨_, _, _, _, hS_, hO_, _⟩ := hp_
      exact SqLF hO_.s (hS_ _ _ h11)
    · rintro i21 x22 H23 hi24 ⟨F29, st30, acc26, wa27, S31, O33, hl32, la28, hL15⟩
      have f_tree := f_tree.mono S31
      have h3 := S31 _ _ h3
      have r6 := r6.mono S31
      have r7 := r7.mono S31
      have h11 := S31 _ _ h11
      have hl12 := hl12.mono S31
      obtain ⟨y13, e34, r35⟩ := RL.got hl12 hi24
      rw [drop_at e34] at hL15
      have hk := hLs16 _ _ _ _ hL15
      obtain rfl := R.int_ r35
      refine ⟨rfl, ?_⟩
      obtain ⟨c36, hk⟩ := wp_chk hk
      refine ⟨_, rfl, _, rfl, _, _, rfl, rfl, c36, _, (O33.at 0 rfl), (comp_len la28 hi24 hl12.len c18), ?_⟩
      exact ⟨F29, (), acc26 ++ [(x_by * y13)], wa27 ++ [V.int (x_by * y13)], S31, O33.set 0 (.lst (wa27 ++ [V.int (x_by * y13)])) rfl, RL.snoc hl32 R.int, by rw [List.length_append]; exact Nat.succ_le_succ la28, hk⟩
    rintro H38 ⟨F39, st40, acc41, wa42, S43, O44, hl45, la46, hL47⟩
    rw [drop_end hl12.len] at hL47
    have hk := hLd17 _ _ hL47
    have f_tree := f_tree.mono S43
    have h3 := S43 _ _ h3
    have r6 := r6.mono S43
    have r7 := r7.mono S43
    have h11 := S43 _ _ h11
    have hl12 := hl12.mono S43
    obtain ⟨F49, O50, S51, h52⟩ := O44.frzE 0 rfl z37
    have f_tree := f_tree.mono S51
    have h3 := S51 _ _ h3
    have r6 := r6.mono S51
    have r7 := r7.mono S51
    have h11 := S51 _ _ h11
    have hl12 := hl12.mono S51
    have hl45 := hl45.mono S51
    have h53 := R.lst (a := Int) h52 hl45
    obtain ⟨p54, w55, e56, h57, hl58⟩ := R.lst_ r7
    cases e56
    obtain ⟨c64, L60, hL61, hLs62, hLd63⟩ := compS_L hk
    refine ⟨_, rfl, _, _, _, _, rfl, rfl, (SqTF O50.s h3), rfl, _, rfl, ⟨_, (SqLF O50.s h57)⟩, fun p65 hp66 => ?_⟩
    have z99 := O50.was hp66
    refine lc_list (K := K) (xs := w55) (fun i H => ∃ (F_ : Hp) (st : Unit) (acc : List (T3 Int Int Int)) (wa : List V), Same F49 F_ ∧ Ow _ F_ [(p65, .lst wa)] H ∧ RL F_ wa acc ∧ wa.length ≤ i ∧ L60 (List.drop i x_tree.2) acc st) ⟨F49, (), [], [], Same.refl _, O50.new hp66, RL.nil, Nat.zero_le _, hL61⟩ (fun i_ H_ _ hp_ => ?_) ?_ ?_
    · obtain ⟨_, _, _, _, hS_, hO_, _⟩ := hp_
      exact SqLF hO_.s (hS_ _ _ h57)
    · rintro i67 x68 H69 hi70 ⟨F75, st76, acc72, wa73, S77, O79, hl78, la74, hL61⟩
      have f_tree := f_tree.mono S77
      have h3 := S77 _ _ h3
      have r6 := r6.mono S77
      have r7 := r7.mono S77
      have h11 := S77 _ _ h11
      have hl12 := hl12.mono S77
      have h53 := h53.mono S77
      have h57 := S77 _ _ h57
      have hl58 := hl58.mono S77
      obtain ⟨y59, e80, r81⟩ := RL.got hl58 hi70
      rw [drop_at e80] at hL61
      have hk := hLs62 _ _ _ _ hL61
      obtain ⟨p82, v85, v86, v87, e83, h84, r88, r89, r90⟩ := R.t3_ r81
      cases e83
      obtain rfl := R.int_ r88
      obtain rfl := R.int_ r89
      obtain rfl := R.int_ r90
      refine ⟨_, _, rfl, (SqTF O79.s h84), rfl, _, _, rfl, _, _, rfl, _, _, rfl, rfl, rfl, ?_⟩
      obtain ⟨c91, hk⟩ := wp_chk hk
      refine ⟨_, rfl, _, rfl, _, rfl, _, rfl, _, _, rfl, rfl, c91, (by show 3 ≤ sizeLine; decide), fun p92 hp93 => ?_⟩
      obtain ⟨F94, O95, S96, h97⟩ := O79.putE hp93 (.tup [V.int y59.a, V.int y59.b, V.int (x_by * y59.c)])
      have f_tree := f_tree.mono S96
      have h3 := S96 _ _ h3
      have r6 := r6.mono S96
      have r7 := r7.mono S96
      have h11 := S96 _ _ h11
      have hl12 := hl12.mono S96
      have h53 := h53.mono S96
      have h57 := S96 _ _ h57
      have hl58 := hl58.mono S96
      have S77 := S77.trans S96
      have hl78 := hl78.mono S96
      have r81 := r81.mono S96
      have h84 := S96 _ _ h84
      have h98 : R (a := (T3 Int Int Int)) F94 (.ref p92) (T3.mk y59.a y59.b (x_by * y59.c)) := R.t3 h97 R.int R.int R.int
      refine ⟨_, (O95.at 0 rfl), (comp_len la74 hi70 hl58.len c64), ?_⟩
      exact ⟨F94, (), acc72 ++ [(T3.mk y59.a y59.b (x_by * y59.c))], wa73 ++ [V.ref p92], S77, O95.set 0 (.lst (wa73 ++ [V.ref p92])) rfl, RL.snoc hl78 h98, by rw [List.length_append]; exact Nat.succ_le_succ la74, hk⟩
    rintro H100 ⟨F101, st102, acc103, wa104, S105, O106, hl107, la108, hL109⟩
    rw [drop_end hl58.len] at hL109
    have hk := hLd63 _ _ hL109
    have f_tree := f_tree.mono S105
    have h3 := S105 _ _ h3
    have r6 := r6.mono S105
    have r7 := r7.mono S105
    have h11 := S105 _ _ h11
    have hl12 := hl12.mono S105
    have h53 := h53.mono S105
    have h57 := S105 _ _ h57
    have hl58 := hl58.mono S105
    obtain ⟨F111, O112, S113, h114⟩ := O106.frzE 0 rfl z99
    have f_tree := f_tree.mono S113
    have h3 := S113 _ _ h3
    have r6 := r6.mono S113
    have r7 := r7.mono S113
    have h11 := S113 _ _ h11
    have hl12 := hl12.mono S113
    have h53 := h53.mono S113
    have h57 := S113 _ _ h57
    have hl58 := hl58.mono S113
    have hl107 := hl107.mono S113
    have h115 := R.lst (a := (T3 Int Int Int)) h114 hl107
    refine ⟨(by show 2 ≤ sizeLine; decide), fun p116 hp117 => ?_⟩
    obtain ⟨F118, O119, S120, h121⟩ := O112.putE hp117 (.tup [V.ref p19, V.ref p65])
    have f_tree := f_tree.mono S120
    have h3 := S120 _ _ h3
    have r6 := r6.mono S120
    have r7 := r7.mono S120
    have h11 := S120 _ _ h11
    have hl12 := hl12.mono S120
    have h53 := h53.mono S120
    have h57 := S120 _ _ h57
    have hl58 := hl58.mono S120
    have h115 := h115.mono S120
    have h122 : R (a := ((List Int) × (List (T3 Int Int Int)))) F118 (.ref p116) (acc41, acc103) := R.t2 h121 h53 h115
    exact hk _ _  O119.g  _ h122
abbrev s_law_exchanged : Stmt := top 39
theorem sc_law_exchanged : FnScope ["told", "word"] ["told"] (defScope s_law_exchanged) := ⟨rfl, rfl, rfl, by decide +kernel, rfl, by decide +kernel, by decide +kernel⟩
def m_law_exchanged : Nat → Sm → M (Sm)
  | 0, _ => bad
  | k_ + 1, x_told =>
    if (Sm.word x_told) ∈ ([(T4.mk ("own" : Str) ("tie" : Str) ("so" : Str) ("more" : Str)).a, (T4.mk ("own" : Str) ("tie" : Str) ("so" : Str) ("more" : Str)).b, (T4.mk ("own" : Str) ("tie" : Str) ("so" : Str) ("more" : Str)).c, (T4.mk ("own" : Str) ("tie" : Str) ("so" : Str) ("more" : Str)).d]) then (
    .ok x_told)
    else (
    opt (Sm.two? x_told) >>= fun y45 =>
    m_law_exchanged k_ y45.1 >>= fun r55 =>
    opt (Sm.two? x_told) >>= fun y63 =>
    m_law_exchanged k_ y63.2 >>= fun r73 =>
    .ok (Sm.two (T3.mk ((dGet (mergeDS [(("most" : Str), ("least" : Str)), (("least" : Str), ("most" : Str))]) (Sm.word x_told)).getD (Sm.word x_told)) r55 r73).a (T3.mk ((dGet (mergeDS [(("most" : Str), ("least" : Str)), (("least" : Str), ("most" : Str))]) (Sm.word x_told)).getD (Sm.word x_told)) r55 r73).b (T3.mk ((dGet (mergeDS [(("most" : Str), ("least" : Str)), (("least" : Str), ("most" : Str))]) (Sm.word x_told)).getD (Sm.word x_told)) r55 r73).c))
def sp_law_exchanged (k_ : Nat) (mg : Str → Option Value) : Sp := fun vs H Q E => ∃ (F : Hp) (v_told : V) (x_told : Sm), vs = [v_told] ∧ Pre F [] H ∧ R (a := Sm) F v_told x_told ∧
  wp (m_law_exchanged k_ x_told) (fun r => ∀ (F' H' : Hp), Gr [] F H F' H' → ∀ v : V, R (a := Sm) F' v r → Q v H')
  (fun n => ∀ (C : Addr) (H' : Hp), mg (Str.ofString n) = some (.ref C) → Kp [] H H' → E (.ref C) none H')
set_option maxHeartbeats 2000000 in
theorem ok_law_exchanged (nb : Nb mg) (D : Df K mg "_law_exchanged" "_law_exchanged" s_law_exchanged ["told"]) : ∀ k_ : Nat, Ca P w K mg base "_law_exchanged" (k_ + 1) ["told"] (sp_law_exchanged k_ mg) := by
  intro k_
  induction k_ with
  | zero =>
    refine Ca.mk' D sc_law_exchanged (fun vs H Q E h => ?_) (fun q_ f_ cdv A outer s H vs Q E hr h => ?_)
    · obtain ⟨F, _, _, rfl, _⟩ := h
      rfl
    · obtain ⟨F, _, _, rfl, _, _, hk⟩ := h
      exact hk.elim
  | succ k_ ih_ =>
    have C_law_exchanged := ih_
    obtain ⟨fa_law_exchanged, fd_law_exchanged, G_law_exchanged, M_law_exchanged, K_law_exchanged, B_law_exchanged⟩ := C_law_exchanged.ex
    refine Ca.mk' D sc_law_exchanged (fun vs H Q E h => ?_) (fun q_ f_ cdv A outer s H vs Q E hr h => ?_)
    · obtain ⟨F, _, _, rfl, _⟩ := h
      rfl
    · obtain ⟨F, v_told, x_told, rfl, P0, f_told, hk⟩ := h
      have nd := sc_law_exchanged.nd
      have hu64 := hr.units
      have hu128 := hu128_of hr
      have O := P0.start
      refine ⟨_, (pss_cons (ps_if (pt_cmpR (op_inT Str hu64) (pe_ix (ixTupK (K := K) rfl) (pv 0) pe_int (fun _ _ => rfl)) (pe_tup (pa_cons pe_str (pa_cons pe_str (pa_cons pe_str (pa_cons pe_str pa_nil))))) rfl) (pss_one (ps_ret (pv 0))) pss_nil)
  (pss_cons (ps_set (i := 1) nd rfl (Or.inl rfl) (pe_dget2 (u1_of hu64) (pe_disp (pps_cons pe_str pe_str (pps_cons pe_str pe_str pps_nil)) rfl rfl (fun h => nomatch h) (by show 2 ≤ 15; decide)) (pe_ix (ixTupK (K := K) rfl) (pv 0) pe_int (fun _ _ => rfl)) (pe_ix (ixTupK (K := K) rfl) (pv 0) pe_int (fun _ _ => rfl)) ⟨rfl, rfl, rfl, rfl⟩))
  (pss_one (ps_ret (pe_tup (pa_cons (pv 1) (pa_cons (pe_call G_law_exchanged (hr.mono (by omega)) rfl M_law_exchanged K_law_exchanged B_law_exchanged .nil (passes_call (takes_of rfl rfl rfl rfl) fun _ _ _ _ h => h) (pa_cons (pe_ix (ixTupK (K := K) rfl) (pv 0) pe_int (fun _ _ => rfl)) pa_nil)) (pa_cons (pe_call G_law_exchanged (hr.mono (by omega)) rfl M_law_exchanged K_law_exchanged B_law_exchanged .nil (passes_call (takes_of rfl rfl rfl rfl) fun _ _ _ _ h => h) (pa_cons (pe_ix (ixTupK (K := K) rfl) (pv 0) pe_int (fun _ _ => rfl)) pa_nil)) pa_nil)))))))), ?_⟩
      obtain ⟨p1, w2, e3, h4⟩ := R.sm_ f_told
      cases e3
      refine ⟨_, rfl, _, _, _, _, rfl, rfl, (SqTF O.s h4), (atI0 _ _), (by show 4 ≤ sizeLine; decide), fun p5 hp6 => ?_⟩
      obtain ⟨F7, O8, S9, h10⟩ := O.putE hp6 (.tup [V.str ("own" : Str), V.str ("tie" : Str), V.str ("so" : Str), V.str ("more" : Str)])
      have f_told := f_told.mono S9
      have h4 := S9 _ _ h4
      have h11 : R (a := (T4 Str Str Str Str)) F7 (.ref p5) (T4.mk ("own" : Str) ("tie" : Str) ("so" : Str) ("more" : Str)) := R.t4 h10 R.str R.str R.str R.str
      obtain ⟨p12, v15, v16, v17, v18, e13, h14, r19, r20, r21, r22⟩ := R.t4_ h11
      cases e13
      obtain rfl := R.str_ r19
      obtain rfl := R.str_ r20
      obtain rfl := R.str_ r21
      obtain rfl := R.str_ r22
      refine ⟨_, _, _, _, R.str, rfl, (.inr (O8.s _ _ h14)), (RL.mono (RL.cons R.str (RL.cons R.str (RL.cons R.str (RL.cons R.str RL.nil)))) O8.s), _, rfl, ?_⟩
      refine iteD (fun q23 => ?_) (fun q23 => ?_)
      · have hk := wp_if hk q23
        refine ⟨_, rfl, ?_⟩
        exact hk _ _  O8.g  _ f_told
      · have hk := wp_el hk q23
        refine fun p25 hp26 => ?_
        have hl28 : RD (κ := Str) (β := Str) F7 [] ([] : (List (Str × Str))) := RD.nil
        have z29 := O8.was hp26
        have O27 := O8.new (o := .dK []) hp26
        refine ⟨(O27.at 0 rfl), [(DK.kk ("most" : Str), V.str ("least" : Str)), (DK.kk ("least" : Str), V.str ("most" : Str))], rfl, (by show 2 ≤ 15; decide), ?_⟩
        have O30 := O27.set 0 (.dK (mergeK [] [(DK.kk ("most" : Str), V.str ("least" : Str)), (DK.kk ("least" : Str), V.str ("most" : Str))])) rfl
        have hl31 : RD (κ := Str) (β := Str) F7 (mergeK [] [(DK.kk ("most" : Str), V.str ("least" : Str)), (DK.kk ("least" : Str), V.str ("most" : Str))]) (mergeDS [(("most" : Str), ("least" : Str)), (("least" : Str), ("most" : Str))]) := merge_rdS (.cons (k := ("most" : Str)) R.str (.cons (k := ("least" : Str)) R.str .nil)) .nil
        obtain ⟨p32, w33, e34, h35⟩ := R.sm_ f_told
        cases e34
        obtain ⟨p36, w37, e38, h39⟩ := R.sm_ f_told
        cases e38
        obtain ⟨o40, hg41, hv42⟩ := dgetD_S (O30.at 0 rfl) hl31 (z := V.str (Sm.word x_told)) (y := (Sm.word x_told)) (i := (Sm.word x_told)) R.str
        refine ⟨_, rfl, (.inl ⟨_, .inl (O30.at 0 rfl)⟩), _, rfl, _, _, _, _, rfl, rfl, (SqTF O30.s h35), (atI0 _ _), _, rfl, _, _, _, _, rfl, rfl, (SqTF O30.s h39), (atI0 _ _), _, hg41, ?_⟩
        rw [R.str_ hv42]
        obtain ⟨y45, e46, hk⟩ := wp_opt hk
        obtain ⟨p47, w48, v49, v50, e51, h52, r53, r54⟩ := R.sm_two f_told e46
        cases e51
        refine ⟨_, rfl, _, rfl, _, _, _, _, rfl, rfl, (SqTF O30.s h52), rfl, _, _, _, rfl, O30.pre0, r53, wp_call hk (fun r55 er56 hk F57 H58 g59 v60 r61 => ?_) (fun n hn C H1 hC kp => hn C H1 hC (O30.kp0 kp))⟩
        have O62 := O30.call0 g59
        have S_ := g59.f
        have f_told := f_told.mono S_
        have h4 := S_ _ _ h4
        have h11 := h11.mono S_
        have h14 := S_ _ _ h14
        have hl31 := hl31.mono S_
        have h35 := S_ _ _ h35
        have h39 := S_ _ _ h39
        have h52 := S_ _ _ h52
        have r53 := r53.mono S_
        have r54 := r54.mono S_
        obtain ⟨y63, e64, hk⟩ := wp_opt hk
        obtain ⟨p65, w66, v67, v68, e69, h70, r71, r72⟩ := R.sm_two f_told e64
        cases e69
        refine ⟨_, rfl, _, _, _, _, rfl, rfl, (SqTF O62.s h70), rfl, _, _, _, rfl, O62.pre0, r72, wp_call hk (fun r73 er74 hk F75 H76 g77 v78 r79 => ?_) (fun n hn C H1 hC kp => hn C H1 hC (O62.kp0 kp))⟩
        have O80 := O62.call0 g77
        have S_ := g77.f
        have f_told := f_told.mono S_
        have h4 := S_ _ _ h4
        have h11 := h11.mono S_
        have h14 := S_ _ _ h14
        have hl31 := hl31.mono S_
        have h35 := S_ _ _ h35
        have h39 := S_ _ _ h39
        have h52 := S_ _ _ h52
        have r53 := r53.mono S_
        have r54 := r54.mono S_
        have r61 := r61.mono S_
        have h70 := S_ _ _ h70
        have r71 := r71.mono S_
        have r72 := r72.mono S_
        refine ⟨(by show 3 ≤ sizeLine; decide), fun p81 hp82 => ?_⟩
        obtain ⟨F83, O84, S85, h86⟩ := O80.putE hp82 (.tup [V.str ((dGet (mergeDS [(("most" : Str), ("least" : Str)), (("least" : Str), ("most" : Str))]) (Sm.word x_told)).getD (Sm.word x_told)), v60, v78])
        have f_told := f_told.mono S85
        have h4 := S85 _ _ h4
        have h11 := h11.mono S85
        have h14 := S85 _ _ h14
        have hl31 := hl31.mono S85
        have h35 := S85 _ _ h35
        have h39 := S85 _ _ h39
        have h52 := S85 _ _ h52
        have r53 := r53.mono S85
        have r54 := r54.mono S85
        have r61 := r61.mono S85
        have h70 := S85 _ _ h70
        have r71 := r71.mono S85
        have r72 := r72.mono S85
        have r79 := r79.mono S85
        have h87 : R (a := (T3 Str Sm Sm)) F83 (.ref p81) (T3.mk ((dGet (mergeDS [(("most" : Str), ("least" : Str)), (("least" : Str), ("most" : Str))]) (Sm.word x_told)).getD (Sm.word x_told)) r55 r73) := R.t3 h86 R.str r61 r79
        exact hk _ _  O84.g  _ (R.of_two h87)
abbrev s_law : Stmt := top 40
theorem sc_law : FnScope ["script", "cell", "deck", "tree", "rule", "by", "rows", "seats", "moved", "parts", "other", "back", "part", "worth", "told", "branch", "row", "number"] ["script"] (defScope s_law) := ⟨rfl, rfl, rfl, by decide +kernel, rfl, by decide +kernel, by decide +kernel⟩
def m_law (x_script : (List Int)) : M (Bool) :=
chk (([((10 : Int) ^ Int.toNat (18 : Int))]).length + (cutL x_script none (some (3 : Int))).length < 16777216) >>= fun _ =>
loopM (fun (y41 : Int) (st52 : Unit) =>
m_law_deck y41 >>= fun r69 =>
m_law_take r69 (4 : Int) >>= fun r91 =>
opt (atI ([(10 : Int), (10 : Int), (10 : Int), (40 : Int)]) r91.1) >>= fun y105 =>
m_law_take r91.2 (3 : Int) >>= fun r118 =>
opt (atI ([(4 : Int), (1000 : Int), ((10 : Int) ^ Int.toNat (20 : Int))]) r118.1) >>= fun y132 =>
m_law_tree r118.2 y105 y132 >>= fun r137 =>
m_law_plain_rule r137.2 >>= fun r148 =>
m_law_take r148.2 (9 : Int) >>= fun r159 =>
m_all_rows r137.1 r148.1 >>= fun r168 =>
m_all_seats r137.1 r148.1 >>= fun r176 =>
m_law_moved r137.1 ((1 : Int) + r159.1) >>= fun r195 =>
m_all_seats r195 r148.1 >>= fun r203 =>
compS (fun (y227 : Int) (st244 : Unit) =>
chk (CMulW ((1 : Int) + r159.1) y227) >>= fun _ =>
.ok (some (((1 : Int) + r159.1) * y227), ())) r176 () >>= fun q262 =>
if r203 ≠ q262.1 then (
.ok (.rt false))
else (
m_all_rows r195 r148.1 >>= fun r269 =>
compS (fun (y282 : ((Int × Int) × (List Int))) (st299 : Unit) =>
compS (fun (y317 : Int) (st334 : Unit) =>
chk (CMulW ((1 : Int) + r159.1) y317) >>= fun _ =>
.ok (some (((1 : Int) + r159.1) * y317), ())) y282.2 () >>= fun q352 =>
.ok (some (y282.1, q352.1), ())) r168 () >>= fun q376 =>
if r269 ≠ q376.1 then (
.ok (.rt false))
else (
m_best_seats r195 r148.1 >>= fun r383 =>
m_best_seats r137.1 r148.1 >>= fun r402 =>
if r383 ≠ r402 then (
.ok (.rt false))
else (
m_least_seats r195 r148.1 >>= fun r422 =>
m_least_seats r137.1 r148.1 >>= fun r441 =>
if r422 ≠ r441 then (
.ok (.rt false))
else (
compS (fun (y479 : (List Sm)) (st496 : Unit) =>
compS (fun (y507 : Sm) (st524 : Unit) =>
m_law_exchanged 12 y507 >>= fun r530 =>
.ok (some r530, ())) y479 () >>= fun q549 =>
.ok (some q549.1, ())) ([r148.1.a, r148.1.b, r148.1.c]) () >>= fun q566 =>
opt (atI q566.1 (0 : Int)) >>= fun y577 =>
opt (atI q566.1 (1 : Int)) >>= fun y587 =>
opt (atI q566.1 (2 : Int)) >>= fun y597 =>
m_law_exchanged 12 r148.1.d >>= fun r602 =>
m_law_moved r137.1 (-(1 : Int)) >>= fun r617 =>
m_all_seats r617 (T4.mk y577 y587 y597 r602) >>= fun r625 =>
compS (fun (y649 : Int) (st666 : Unit) =>
.ok (some ((0 : Int) - y649), ())) r176 () >>= fun q683 =>
if r625 ≠ q683.1 then (
.ok (.rt false))
else (
m_best_seats r617 (T4.mk y577 y587 y597 r602) >>= fun r690 =>
m_least_seats r137.1 r148.1 >>= fun r709 =>
if r690 ≠ r709 then (
.ok (.rt false))
else (
m_least_seats r617 (T4.mk y577 y587 y597 r602) >>= fun r729 =>
m_best_seats r137.1 r148.1 >>= fun r748 =>
if r729 ≠ r748 then (
.ok (.rt false))
else (
.ok (.nx ()))))))))) (([((10 : Int) ^ Int.toNat (18 : Int))]) ++ (cutL x_script none (some (3 : Int)))) () >>= fun f787 => match f787 with
| .rt z_ => .ok z_
| .nx st772 =>
.ok true
def sp_law (K : PySem.W.Frag) : Sp := fun vs H Q E => ∃ (F : Hp) (a_script : Addr) (x_script : (List Int)), vs = [.ref a_script] ∧ Pre F [] H ∧ SqL K F a_script (x_script.map V.int) ∧
  wp (m_law x_script) (fun r => ∀ (F' H' : Hp), Gr [] F H F' H' → Q (V.bl r) H') (fun _ => False)
set_option maxHeartbeats 2000000 in
theorem ok_law (nb : Nb mg) (C_law_deck : Ca P w K mg base "_law_deck" 2 ["cell"] (sp_law_deck mg)) (C_law_exchanged : Ca P w K mg base "_law_exchanged" 13 ["told"] (sp_law_exchanged 12 mg)) (C_law_moved : Ca P w K mg base "_law_moved" 1 ["tree", "by"] (sp_law_moved mg)) (C_law_plain_rule : Ca P w K mg base "_law_plain_rule" 8 ["deck"] (sp_law_plain_rule mg)) (C_law_take : Ca P w K mg base "_law_take" 1 ["deck", "many"] (sp_law_take mg)) (C_law_tree : Ca P w K mg base "_law_tree" 3 ["deck", "most", "far"] (sp_law_tree mg)) (C_all_rows : Ca P w K mg base "all_rows" 64 ["tree", "rule"] (sp_all_rows mg)) (C_all_seats : Ca P w K mg base "all_seats" 64 ["tree", "rule"] (sp_all_seats mg)) (C_best_seats : Ca P w K mg base "best_seats" 65 ["tree", "rule"] (sp_best_seats mg)) (C_least_seats : Ca P w K mg base "least_seats" 65 ["tree", "rule"] (sp_least_seats mg)) {f : Addr} {fd : FuncData} (F_ : Fun K "law" "law" s_law f fd) : FnOk P w K mg base (L2.CX P w) 66 f fd ["script"] (sp_law K) := by
  obtain ⟨fa_law_deck, fd_law_deck, G_law_deck, M_law_deck, K_law_deck, B_law_deck⟩ := C_law_deck.ex
  obtain ⟨fa_law_exchanged, fd_law_exchanged, G_law_exchanged, M_law_exchanged, K_law_exchanged, B_law_exchanged⟩ := C_law_exchanged.ex
  obtain ⟨fa_law_moved, fd_law_moved, G_law_moved, M_law_moved, K_law_moved, B_law_moved⟩ := C_law_moved.ex
  obtain ⟨fa_law_plain_rule, fd_law_plain_rule, G_law_plain_rule, M_law_plain_rule, K_law_plain_rule, B_law_plain_rule⟩ := C_law_plain_rule.ex
  obtain ⟨fa_law_take, fd_law_take, G_law_take, M_law_take, K_law_take, B_law_take⟩ := C_law_take.ex
  obtain ⟨fa_law_tree, fd_law_tree, G_law_tree, M_law_tree, K_law_tree, B_law_tree⟩ := C_law_tree.ex
  obtain ⟨fa_all_rows, fd_all_rows, G_all_rows, M_all_rows, K_all_rows, B_all_rows⟩ := C_all_rows.ex
  obtain ⟨fa_all_seats, fd_all_seats, G_all_seats, M_all_seats, K_all_seats, B_all_seats⟩ := C_all_seats.ex
  obtain ⟨fa_best_seats, fd_best_seats, G_best_seats, M_best_seats, K_best_seats, B_best_seats⟩ := C_best_seats.ex
  obtain ⟨fa_least_seats, fd_least_seats, G_least_seats, M_least_seats, K_least_seats, B_least_seats⟩ := C_least_seats.ex
  refine F_.okX sc_law (fun vs H Q E h => ?_) (fun cdv A outer s H vs Q E hr h => ?_)
  · obtain ⟨F, _, _, rfl, _⟩ := h
    rfl
  · obtain ⟨F, a_script, x_script, rfl, P0, f_script, hk⟩ := h
    have nd := sc_law.nd
    have hu64 := hr.units
    have hu128 := hu128_of hr
    have O := P0.start
    refine ⟨_, (pss_cons (ps_for (passes_of rfl) rfl (piListK (K := K) rfl (pe_op op_cat (pe_lst (pa_cons (pe_op op_pow pe_int pe_int) pa_nil)) (pe_slice (slListK (K := K) rfl) (pv 0) po_none (po_some pe_int)))) (pg_name (i := 1) nd rfl (Or.inl rfl)) (pss_cons (ps_set (i := 2) nd rfl (Or.inl rfl) (pe_call G_law_deck (hr.mono (by decide)) rfl M_law_deck K_law_deck B_law_deck .nil (passes_call (takes_of rfl rfl rfl rfl) fun _ _ _ _ h => h) (pa_cons (pv 1) pa_nil)))
  (pss_cons (ps_set (i := 3) nd rfl (Or.inl rfl) (pe_call G_law_tree (hr.mono (by decide)) rfl M_law_tree K_law_tree B_law_tree .nil (passes_call (takes_of rfl rfl rfl rfl) fun _ _ _ _ h => h) (pa_cons (pv 2) (pa_cons (pe_ix (ixListK (K := K) rfl) (pe_lst (pa_cons pe_int (pa_cons pe_int (pa_cons pe_int (pa_cons pe_int pa_nil))))) (pe_call G_law_take (hr.mono (by decide)) rfl M_law_take K_law_take B_law_take .nil (passes_call (takes_of rfl rfl rfl rfl) fun _ _ _ _ h => h) (pa_cons (pv 2) (pa_cons pe_int pa_nil))) (fun _ _ => rfl)) (pa_cons (pe_ix (ixListK (K := K) rfl) (pe_lst (pa_cons pe_int (pa_cons pe_int (pa_cons (pe_op op_pow pe_int pe_int) pa_nil)))) (pe_call G_law_take (hr.mono (by decide)) rfl M_law_take K_law_take B_law_take .nil (passes_call (takes_of rfl rfl rfl rfl) fun _ _ _ _ h => h) (pa_cons (pv 2) (pa_cons pe_int pa_nil))) (fun _ _ => rfl)) pa_nil)))))
  (pss_cons (ps_set (i := 4) nd rfl (Or.inl rfl) (pe_call G_law_plain_rule (hr.mono (by decide)) rfl M_law_plain_rule K_law_plain_rule B_law_plain_rule .nil (passes_call (takes_of rfl rfl rfl rfl) fun _ _ _ _ h => h) (pa_cons (pv 2) pa_nil)))
  (pss_cons (ps_set (i := 5) nd rfl (Or.inr rfl) (pe_op op_add pe_int (pe_call G_law_take (hr.mono (by decide)) rfl M_law_take K_law_take B_law_take .nil (passes_call (takes_of rfl rfl rfl rfl) fun _ _ _ _ h => h) (pa_cons (pv 2) (pa_cons pe_int pa_nil)))))
  (pss_cons (ps_set (i := 6) nd rfl (Or.inl rfl) (pe_call G_all_rows (hr.mono (by decide)) rfl M_all_rows K_all_rows B_all_rows .nil (passes_call (takes_of rfl rfl rfl rfl) fun _ _ _ _ h => h) (pa_cons (pv 3) (pa_cons (pv 4) pa_nil))))
  (pss_cons (ps_set (i := 7) nd rfl (Or.inl rfl) (pe_call G_all_seats (hr.mono (by decide)) rfl M_all_seats K_all_seats B_all_seats .nil (passes_call (takes_of rfl rfl rfl rfl) fun _ _ _ _ h => h) (pa_cons (pv 3) (pa_cons (pv 4) pa_nil))))
  (pss_cons (ps_set (i := 8) nd rfl (Or.inl rfl) (pe_call G_law_moved (hr.mono (by decide)) rfl M_law_moved K_law_moved B_law_moved .nil (passes_call (takes_of rfl rfl rfl rfl) fun _ _ _ _ h => h) (pa_cons (pv 3) (pa_cons (pv 5) pa_nil))))
  (pss_cons (ps_if (pt_cmpR (op_neT (List Int) hu64) (pe_call G_all_seats (hr.mono (by decide)) rfl M_all_seats K_all_seats B_all_seats .nil (passes_call (takes_of rfl rfl rfl rfl) fun _ _ _ _ h => h) (pa_cons (pv 8) (pa_cons (pv 4) pa_nil))) (pe_lc (own := [("worth", 13)]) (g := gName 13) (tt := _) rfl nd (piListK (K := K) rfl (pv 7)) (blkOk_by (own := [("worth", 13)]) (N := ["script", "cell", "deck", "tree", "rule", "by", "rows", "seats", "moved", "parts", "other", "back", "part", "worth", "told", "branch", "row", "number"]) (sc := defScope s_law) (by decide +kernel)) (fun _ _ _ _ _ => (pg_name (i := 13) nd rfl (Or.inl rfl))) (fun _ _ _ _ _ => pts_nil) (fun _ _ _ _ _ => (pe_op op_mulW (pv 5) (pv 13)))) (nomark _)) (pss_one (ps_ret pe_bl)) pss_nil)
  (pss_cons (ps_if (pt_cmpR (op_neT (List ((Int × Int) × (List Int))) hu64) (pe_call G_all_rows (hr.mono (by decide)) rfl M_all_rows K_all_rows B_all_rows .nil (passes_call (takes_of rfl rfl rfl rfl) fun _ _ _ _ h => h) (pa_cons (pv 8) (pa_cons (pv 4) pa_nil))) (pe_lc (own := [("branch", 15), ("row", 16)]) (g := gTup K 2 (gCons (gName 15) (gCons (gName 16) (gNil)))) (tt := _) rfl nd (piListK (K := K) rfl (pv 6)) (blkOk_by (own := [("branch", 15), ("row", 16)]) (N := ["script", "cell", "deck", "tree", "rule", "by", "rows", "seats", "moved", "parts", "other", "back", "part", "worth", "told", "branch", "row", "number"]) (sc := defScope s_law) (by decide +kernel)) (fun _ _ _ _ _ => (pg_tup rfl (pgs_cons (pg_name (i := 15) nd rfl (Or.inl rfl)) (pgs_cons (pg_name (i := 16) nd rfl (Or.inl rfl)) pgs_nil)))) (fun _ _ _ _ _ => pts_nil) (fun _ _ _ _ _ => (pe_tup (pa_cons (pv 15) (pa_cons (by exact (pe_lc (own := [("number", 17)]) (g := gName 17) (tt := _) rfl nd (piListK (K := K) rfl (pv 16)) (blkOk_by (own := [("number", 17)]) (by rfl)) (fun _ _ _ _ _ => (pg_name (i := 17) nd rfl (Or.inl rfl))) (fun _ _ _ _ _ => pts_nil) (fun _ _ _ _ _ => (pe_op op_mulW (pv 5) (pv 17))))) pa_nil))))) (nomark _)) (pss_one (ps_ret pe_bl)) pss_nil)
  (pss_cons (ps_if (PW.pt (pw_or (pt_cmpR (op_neT (List Int) hu64) (pe_call G_best_seats (hr.mono (by decide)) rfl M_best_seats K_best_seats B_best_seats .nil (passes_call (takes_of rfl rfl rfl rfl) fun _ _ _ _ h => h) (pa_cons (pv 8) (pa_cons (pv 4) pa_nil))) (pe_call G_best_seats (hr.mono (by decide)) rfl M_best_seats K_best_seats B_best_seats .nil (passes_call (takes_of rfl rfl rfl rfl) fun _ _ _ _ h => h) (pa_cons (pv 3) (pa_cons (pv 4) pa_nil))) (nomark _)) (pw_or1 (pt_cmpR (op_neT (List Int) hu64) (pe_call G_least_seats (hr.mono (by decide)) rfl M_least_seats K_least_seats B_least_seats .nil (passes_call (takes_of rfl rfl rfl rfl) fun _ _ _ _ h => h) (pa_cons (pv 8) (pa_cons (pv 4) pa_nil))) (pe_call G_least_seats (hr.mono (by decide)) rfl M_least_seats K_least_seats B_least_seats .nil (passes_call (takes_of rfl rfl rfl rfl) fun _ _ _ _ h => h) (pa_cons (pv 3) (pa_cons (pv 4) pa_nil))) (nomark _))))) (pss_one (ps_ret pe_bl)) pss_nil)
  (pss_cons (ps_setLc (i := 9) (own := [("part", 12)]) (g := gName 12) (tt := _) rfl nd rfl rfl (sw_true rfl rfl rfl (by decide +kernel)) (piTupK (K := K) rfl (pe_slice (slTupK (K := K) rfl) (pv 4) po_none (po_some pe_int))) (blkOk_by (own := [("part", 12)]) (N := ["script", "cell", "deck", "tree", "rule", "by", "rows", "seats", "moved", "parts", "other", "back", "part", "worth", "told", "branch", "row", "number"]) (sc := defScope s_law) (by decide +kernel)) (fun _ _ _ _ _ => (pg_name (i := 12) nd rfl (Or.inl rfl))) (fun _ _ _ _ _ => pts_nil) (fun _ _ _ _ _ => (pe_lc (own := [("told", 14)]) (g := gName 14) (tt := _) rfl nd (piListK (K := K) rfl (pv 12)) (blkOk_by (own := [("told", 14)]) (by rfl)) (fun _ _ _ _ _ => (pg_name (i := 14) nd rfl (Or.inl rfl))) (fun _ _ _ _ _ => pts_nil) (fun _ _ _ _ _ => (pe_call G_law_exchanged (hr.mono (by decide)) rfl M_law_exchanged K_law_exchanged B_law_exchanged .nil passL (pa_cons (pv 14) pa_nil))))))
  (pss_cons (ps_set (i := 10) nd rfl (Or.inl rfl) (pe_tup (pa_cons (pe_ix (ixListK (K := K) rfl) (pv 9) pe_int (fun _ _ => rfl)) (pa_cons (pe_ix (ixListK (K := K) rfl) (pv 9) pe_int (fun _ _ => rfl)) (pa_cons (pe_ix (ixListK (K := K) rfl) (pv 9) pe_int (fun _ _ => rfl)) (pa_cons (pe_call G_law_exchanged (hr.mono (by decide)) rfl M_law_exchanged K_law_exchanged B_law_exchanged .nil (passes_call (takes_of rfl rfl rfl rfl) fun _ _ _ _ h => h) (pa_cons (pe_ix (ixTupK (K := K) rfl) (pv 4) pe_int (fun _ _ => rfl)) pa_nil)) pa_nil))))))
  (pss_cons (ps_set (i := 11) nd rfl (Or.inl rfl) (pe_call G_law_moved (hr.mono (by decide)) rfl M_law_moved K_law_moved B_law_moved .nil (passes_call (takes_of rfl rfl rfl rfl) fun _ _ _ _ h => h) (pa_cons (pv 3) (pa_cons (pe_un un_neg pe_int) pa_nil))))
  (pss_cons (ps_if (pt_cmpR (op_neT (List Int) hu64) (pe_call G_all_seats (hr.mono (by decide)) rfl M_all_seats K_all_seats B_all_seats .nil (passes_call (takes_of rfl rfl rfl rfl) fun _ _ _ _ h => h) (pa_cons (pv 11) (pa_cons (pv 10) pa_nil))) (pe_lc (own := [("worth", 13)]) (g := gName 13) (tt := _) rfl nd (piListK (K := K) rfl (pv 7)) (blkOk_by (own := [("worth", 13)]) (N := ["script", "cell", "deck", "tree", "rule", "by", "rows", "seats", "moved", "parts", "other", "back", "part", "worth", "told", "branch", "row", "number"]) (sc := defScope s_law) (by decide +kernel)) (fun _ _ _ _ _ => (pg_name (i := 13) nd rfl (Or.inl rfl))) (fun _ _ _ _ _ => pts_nil) (fun _ _ _ _ _ => (pe_op op_sub pe_int (pv 13)))) (nomark _)) (pss_one (ps_ret pe_bl)) pss_nil)
  (pss_one (ps_if (PW.pt (pw_or (pt_cmpR (op_neT (List Int) hu64) (pe_call G_best_seats (hr.mono (by decide)) rfl M_best_seats K_best_seats B_best_seats .nil (passes_call (takes_of rfl rfl rfl rfl) fun _ _ _ _ h => h) (pa_cons (pv 11) (pa_cons (pv 10) pa_nil))) (pe_call G_least_seats (hr.mono (by decide)) rfl M_least_seats K_least_seats B_least_seats .nil (passes_call (takes_of rfl rfl rfl rfl) fun _ _ _ _ h => h) (pa_cons (pv 3) (pa_cons (pv 4) pa_nil))) (nomark _)) (pw_or1 (pt_cmpR (op_neT (List Int) hu64) (pe_call G_least_seats (hr.mono (by decide)) rfl M_least_seats K_least_seats B_least_seats .nil (passes_call (takes_of rfl rfl rfl rfl) fun _ _ _ _ h => h) (pa_cons (pv 11) (pa_cons (pv 10) pa_nil))) (pe_call G_best_seats (hr.mono (by decide)) rfl M_best_seats K_best_seats B_best_seats .nil (passes_call (takes_of rfl rfl rfl rfl) fun _ _ _ _ h => h) (pa_cons (pv 3) (pa_cons (pv 4) pa_nil))) (nomark _))))) (pss_one (ps_ret pe_bl)) pss_nil)))))))))))))))))
  (pss_one (ps_ret pe_bl))), ?_⟩
    refine ⟨_, _, rfl, rfl, (by decide), (by show 1 ≤ sizeLine; decide), fun p1 hp2 => ?_⟩
    have hl8 : RL (a := Int) F ([V.int ((10 : Int) ^ Int.toNat (18 : Int))]) ([((10 : Int) ^ Int.toNat (18 : Int))]) := RL.cons R.int RL.nil
    obtain ⟨F3, O4, S5, h6⟩ := O.putE hp2 (.lst ([V.int ((10 : Int) ^ Int.toNat (18 : Int))]))
    have f_script := S5.seq f_script
    have hl8 := hl8.mono S5
    have h7 := R.lst (a := Int) h6 hl8
    refine ⟨_, rfl, _, rfl, _, _, rfl, (O4.s.seq f_script), fun p9 hp10 => ?_⟩
    have hl16 : RL (a := Int) F3 (cutV (List.map V.int x_script) none (some (3 : Int))) (cutL x_script none (some (3 : Int))) := RL.cutL RL.of_ints none (some (3 : Int))
    obtain ⟨F11, O12, S13, h14⟩ := O4.putE hp10 (.lst (cutV (List.map V.int x_script) none (some (3 : Int))))
    have f_script := S13.seq f_script
    have h7 := h7.mono S13
    have hl16 := hl16.mono S13
    have h15 := R.lst (a := Int) h14 hl16
    obtain ⟨p17, w18, e19, h20, hl21⟩ := R.lst_ h7
    cases e19
    obtain ⟨p22, w23, e24, h25, hl26⟩ := R.lst_ h15
    cases e24
    obtain ⟨c27, hk⟩ := wp_chk hk
    refine ⟨_, _, _, _, rfl, rfl, (O12.s _ _ h20), (O12.s _ _ h25), (by rw [hl21.len, hl26.len]; exact le_line c27), fun p28 hp29 => ?_⟩
    have hl35 : RL (a := Int) F11 (w18 ++ w23) (([((10 : Int) ^ Int.toNat (18 : Int))]) ++ (cutL x_script none (some (3 : Int)))) := RL.app hl21 hl26
    obtain ⟨F30, O31, S32, h33⟩ := O12.putE hp29 (.lst (w18 ++ w23))
    have f_script := S32.seq f_script
    have h7 := h7.mono S32
    have h15 := h15.mono S32
    have h20 := S32 _ _ h20
    have hl21 := hl21.mono S32
    have h25 := S32 _ _ h25
    have hl26 := hl26.mono S32
    have hl35 := hl35.mono S32
    have h34 := R.lst (a := Int) h33 hl35
    obtain ⟨p36, w37, e38, h39, hl40⟩ := R.lst_ h34
    cases e38
    obtain ⟨L42, hL43, hLs44, hLd45⟩ := loopM_L hk
    refine ⟨_, rfl, ⟨_, (SqLF O31.s h39)⟩, ?_⟩
    refine for_list (K := K) (xs := w37) (fun i σ H => ∃ (F_ : Hp) (st : Unit) (t_0 : Option V) (t_1 : Option V) (t_2 : Option V) (t_3 : Option V) (t_4 : Option V) (t_5 : Option V) (t_6 : Option V) (t_7 : Option V) (t_8 : Option V) (t_9 : Option V) (t_10 : Option V), σ = [some (V.ref a_script), t_0, t_1, t_2, t_3, t_4, t_5, t_6, t_7, t_8, t_9, t_10, none, none, none, none, none, none] ∧ Same F30 F_ ∧ Ow _ F_ [] H ∧ L42 (List.drop i (([((10 : Int) ^ Int.toNat (18 : Int))]) ++ (cutL x_script none (some (3 : Int))))) st) ⟨F30, (), none, none, none, none, none, none, none, none, none, none, none, rfl, Same.refl _, O31, hL43⟩ (fun i_ σ_ H_ _ hp_ => ?_) ?_ ?_
    · obtain ⟨_, _, _, _, _, _, _, _, _, _, _, _, _, _, hS_, hO_, _⟩ := hp_
      exact SqLF hO_.s (hS_ _ _ h39)
    · rintro i46 x47 sg48 H49 hi50 ⟨F64, st52, t53, t54, t55, t56, t57, t58, t59, t60, t61, t62, t63, rfl, S51, O65, hL43⟩
      have f_script := S51.seq f_script
      have h7 := h7.mono S51
      have h15 := h15.mono S51
      have h20 := S51 _ _ h20
      have hl21 := hl21.mono S51
      have h25 := S51 _ _ h25
      have hl26 := hl26.mono S51
      have h34 := h34.mono S51
      have h39 := S51 _ _ h39
      have hl40 := hl40.mono S51
      obtain ⟨y41, e66, r67⟩ := RL.got hl40 hi50
      rw [drop_at e66] at hL43
      have hk := hLs44 _ _ _ hL43
      obtain rfl := R.int_ r67
      refine ⟨_, rfl, _, _, rfl, O65.pre0, wp_call hk (fun r69 er70 hk F71 H72 g73 p74 w75 hn76 hf77 h78 hl79 => ?_) (fun n hn C H1 hC kp => hn.elim)⟩
      have O80 := O65.call0 g73
      have S_ := g73.f
      have f_script := S_.seq f_script
      have h7 := h7.mono S_
      have h15 := h15.mono S_
      have h20 := S_ _ _ h20
      have hl21 := hl21.mono S_
      have h25 := S_ _ _ h25
      have hl26 := hl26.mono S_
      have h34 := h34.mono S_
      have h39 := S_ _ _ h39
      have hl40 := hl40.mono S_
      have S51 := S51.trans S_
      have O81 := O65.got O80 rfl hn76 hf77 h78
      have z82 := O65.was hn76
      refine ⟨_, rfl, (by show 4 ≤ sizeLine; decide), fun p83 hp84 => ?_⟩
      have hl90 : RL (a := Int) F71 ([V.int (10 : Int), V.int (10 : Int), V.int (10 : Int), V.int (40 : Int)]) ([(10 : Int), (10 : Int), (10 : Int), (40 : Int)]) := RL.cons R.int (RL.cons R.int (RL.cons R.int (RL.cons R.int RL.nil)))
      obtain ⟨F85, O86, S87, h88⟩ := O81.putE hp84 (.lst ([V.int (10 : Int), V.int (10 : Int), V.int (10 : Int), V.int (40 : Int)]))
      have f_script := S87.seq f_script
      have h7 := h7.mono S87
      have h15 := h15.mono S87
      have h20 := S87 _ _ h20
      have hl21 := hl21.mono S87
      have h25 := S87 _ _ h25
      have hl26 := hl26.mono S87
      have h34 := h34.mono S87
      have h39 := S87 _ _ h39
      have hl40 := hl40.mono S87
      have S51 := S51.trans S87
      have hl79 := hl79.mono S87
      have hl90 := hl90.mono S87
      have h89 := R.lst (a := Int) h88 hl90
      refine ⟨_, rfl, _, _, _, _, _, rfl, (O86.pre1 0 rfl), hl79, wp_call hk (fun r91 er92 hk F93 H94 w96 g95 h97 hl98 => ?_) (fun n hn C H1 hC kp => hn.elim)⟩
      have O99 := O86.call1 g95 0 rfl h97
      have S_ := g95.f
      have f_script := S_.seq f_script
      have h7 := h7.mono S_
      have h15 := h15.mono S_
      have h20 := S_ _ _ h20
      have hl21 := hl21.mono S_
      have h25 := S_ _ _ h25
      have hl26 := hl26.mono S_
      have h34 := h34.mono S_
      have h39 := S_ _ _ h39
      have hl40 := hl40.mono S_
      have S51 := S51.trans S_
      have h89 := h89.mono S_
      obtain ⟨p100, w101, e102, h103, hl104⟩ := R.lst_ h89
      cases e102
      obtain ⟨y105, e106, hk⟩ := wp_opt hk
      obtain ⟨w107, e108, r109⟩ := hl104.atI e106
      obtain rfl := R.int_ r109
      refine ⟨_, _, _, _, rfl, rfl, (SqLF O99.s h103), e108, _, _, rfl, rfl, (by decide), (by show 3 ≤ sizeLine; decide), fun p110 hp111 => ?_⟩
      have hl117 : RL (a := Int) F93 ([V.int (4 : Int), V.int (1000 : Int), V.int ((10 : Int) ^ Int.toNat (20 : Int))]) ([(4 : Int), (1000 : Int), ((10 : Int) ^ Int.toNat (20 : Int))]) := RL.cons R.int (RL.cons R.int (RL.cons R.int RL.nil))
      obtain ⟨F112, O113, S114, h115⟩ := O99.putE hp111 (.lst ([V.int (4 : Int), V.int (1000 : Int), V.int ((10 : Int) ^ Int.toNat (20 : Int))]))
      have f_script := S114.seq f_script
      have h7 := h7.mono S114
      have h15 := h15.mono S114
      have h20 := S114 _ _ h20
      have hl21 := hl21.mono S114
      have h25 := S114 _ _ h25
      have hl26 := hl26.mono S114
      have h34 := h34.mono S114
      have h39 := S114 _ _ h39
      have hl40 := hl40.mono S114
      have S51 := S51.trans S114
      have h89 := h89.mono S114
      have hl98 := hl98.mono S114
      have h103 := S114 _ _ h103
      have hl104 := hl104.mono S114
      have hl117 := hl117.mono S114
      have h116 := R.lst (a := Int) h115 hl117
      refine ⟨_, rfl, _, _, _, _, _, rfl, (O113.pre1 0 rfl), hl98, wp_call hk (fun r118 er119 hk F120 H121 w123 g122 h124 hl125 => ?_) (fun n hn C H1 hC kp => hn.elim)⟩
      have O126 := O113.call1 g122 0 rfl h124
      have S_ := g122.f
      have f_script := S_.seq f_script
      have h7 := h7.mono S_
      have h15 := h15.mono S_
      have h20 := S_ _ _ h20
      have hl21 := hl21.mono S_
      have h25 := S_ _ _ h25
      have hl26 := hl26.mono S_
      have h34 := h34.mono S_
      have h39 := S_ _ _ h39
      have hl40 := hl40.mono S_
      have S51 := S51.trans S_
      have h89 := h89.mono S_
      have h103 := S_ _ _ h103
      have hl104 := hl104.mono S_
      have h116 := h116.mono S_
      obtain ⟨p127, w128, e129, h130, hl131⟩ := R.lst_ h116
      cases e129
      obtain ⟨y132, e133, hk⟩ := wp_opt hk
      obtain ⟨w134, e135, r136⟩ := hl131.atI e133
      obtain rfl := R.int_ r136
      refine ⟨_, _, _, _, rfl, rfl, (SqLF O126.s h130), e135, _, _, _, _, _, _, rfl, (O126.pre1 0 rfl), hl125, wp_call hk (fun r137 er138 hk F139 H140 w142 g141 h143 hl144 v145 r146 => ?_) (fun n hn C H1 hC kp => hn.elim)⟩
      have O147 := O126.call1 g141 0 rfl h143
      have S_ := g141.f
      have f_script := S_.seq f_script
      have h7 := h7.mono S_
      have h15 := h15.mono S_
      have h20 := S_ _ _ h20
      have hl21 := hl21.mono S_
      have h25 := S_ _ _ h25
      have hl26 := hl26.mono S_
      have h34 := h34.mono S_
      have h39 := S_ _ _ h39
      have hl40 := hl40.mono S_
      have S51 := S51.trans S_
      have h89 := h89.mono S_
      have h103 := S_ _ _ h103
      have hl104 := hl104.mono S_
      have h116 := h116.mono S_
      have h130 := S_ _ _ h130
      have hl131 := hl131.mono S_
      refine ⟨_, rfl, _, _, _, _, rfl, (O147.pre1 0 rfl), hl144, wp_call hk (fun r148 er149 hk F150 H151 w153 g152 h154 hl155 v156 r157 => ?_) (fun n hn C H1 hC kp => hn.elim)⟩
      have O158 := O147.call1 g152 0 rfl h154
      have S_ := g152.f
      have f_script := S_.seq f_script
      have h7 := h7.mono S_
      have h15 := h15.mono S_
      have h20 := S_ _ _ h20
      have hl21 := hl21.mono S_
      have h25 := S_ _ _ h25
      have hl26 := hl26.mono S_
      have h34 := h34.mono S_
      have h39 := S_ _ _ h39
      have hl40 := hl40.mono S_
      have S51 := S51.trans S_
      have h89 := h89.mono S_
      have h103 := S_ _ _ h103
      have hl104 := hl104.mono S_
      have h116 := h116.mono S_
      have h130 := S_ _ _ h130
      have hl131 := hl131.mono S_
      have r146 := r146.mono S_
      refine ⟨_, rfl, _, _, _, _, _, rfl, (O158.pre1 0 rfl), hl155, wp_call hk (fun r159 er160 hk F161 H162 w164 g163 h165 hl166 => ?_) (fun n hn C H1 hC kp => hn.elim)⟩
      have O167 := O158.call1 g163 0 rfl h165
      have S_ := g163.f
      have f_script := S_.seq f_script
      have h7 := h7.mono S_
      have h15 := h15.mono S_
      have h20 := S_ _ _ h20
      have hl21 := hl21.mono S_
      have h25 := S_ _ _ h25
      have hl26 := hl26.mono S_
      have h34 := h34.mono S_
      have h39 := S_ _ _ h39
      have hl40 := hl40.mono S_
      have S51 := S51.trans S_
      have h89 := h89.mono S_
      have h103 := S_ _ _ h103
      have hl104 := hl104.mono S_
      have h116 := h116.mono S_
      have h130 := S_ _ _ h130
      have hl131 := hl131.mono S_
      have r146 := r146.mono S_
      have r157 := r157.mono S_
      refine ⟨_, _, rfl, rfl, _, rfl, _, rfl, _, _, _, _, _, rfl, O167.pre0, r146, r157, wp_call hk (fun r168 er169 hk F170 H171 g172 v173 r174 => ?_) (fun n hn C H1 hC kp => hn.elim)⟩
      have O175 := O167.call0 g172
      have S_ := g172.f
      have f_script := S_.seq f_script
      have h7 := h7.mono S_
      have h15 := h15.mono S_
      have h20 := S_ _ _ h20
      have hl21 := hl21.mono S_
      have h25 := S_ _ _ h25
      have hl26 := hl26.mono S_
      have h34 := h34.mono S_
      have h39 := S_ _ _ h39
      have hl40 := hl40.mono S_
      have S51 := S51.trans S_
      have h89 := h89.mono S_
      have h103 := S_ _ _ h103
      have hl104 := hl104.mono S_
      have h116 := h116.mono S_
      have h130 := S_ _ _ h130
      have hl131 := hl131.mono S_
      have r146 := r146.mono S_
      have r157 := r157.mono S_
      have hl166 := hl166.mono S_
      refine ⟨_, rfl, _, rfl, _, _, _, _, _, rfl, O175.pre0, r146, r157, wp_call hk (fun r176 er177 hk F178 H179 g180 p181 w182 hn183 hf184 h185 hl186 => ?_) (fun n hn C H1 hC kp => hn.elim)⟩
      have O187 := O175.call0 g180
      have S_ := g180.f
      have f_script := S_.seq f_script
      have h7 := h7.mono S_
      have h15 := h15.mono S_
      have h20 := S_ _ _ h20
      have hl21 := hl21.mono S_
      have h25 := S_ _ _ h25
      have hl26 := hl26.mono S_
      have h34 := h34.mono S_
      have h39 := S_ _ _ h39
      have hl40 := hl40.mono S_
      have S51 := S51.trans S_
      have h89 := h89.mono S_
      have h103 := S_ _ _ h103
      have hl104 := hl104.mono S_
      have h116 := h116.mono S_
      have h130 := S_ _ _ h130
      have hl131 := hl131.mono S_
      have r146 := r146.mono S_
      have r157 := r157.mono S_
      have hl166 := hl166.mono S_
      have r174 := r174.mono S_
      have O188 := O175.got O187 rfl hn183 hf184 h185
      have z189 := O175.was hn183
      obtain ⟨F190, O191, S192, h193⟩ := O188.frzE 0 rfl z189
      have f_script := S192.seq f_script
      have h7 := h7.mono S192
      have h15 := h15.mono S192
      have h20 := S192 _ _ h20
      have hl21 := hl21.mono S192
      have h25 := S192 _ _ h25
      have hl26 := hl26.mono S192
      have h34 := h34.mono S192
      have h39 := S192 _ _ h39
      have hl40 := hl40.mono S192
      have S51 := S51.trans S192
      have h89 := h89.mono S192
      have h103 := S192 _ _ h103
      have hl104 := hl104.mono S192
      have h116 := h116.mono S192
      have h130 := S192 _ _ h130
      have hl131 := hl131.mono S192
      have r146 := r146.mono S192
      have r157 := r157.mono S192
      have hl166 := hl166.mono S192
      have r174 := r174.mono S192
      have hl186 := hl186.mono S192
      have h194 := R.lst (a := Int) h193 hl186
      refine ⟨_, rfl, _, rfl, _, _, _, _, rfl, O191.pre0, r146, wp_call hk (fun r195 er196 hk F197 H198 g199 v200 r201 => ?_) (fun n hn C H1 hC kp => hn.elim)⟩
      have O202 := O191.call0 g199
      have S_ := g199.f
      have f_script := S_.seq f_script
      have h7 := h7.mono S_
      have h15 := h15.mono S_
      have h20 := S_ _ _ h20
      have hl21 := hl21.mono S_
      have h25 := S_ _ _ h25
      have hl26 := hl26.mono S_
      have h34 := h34.mono S_
      have h39 := S_ _ _ h39
      have hl40 := hl40.mono S_
      have S51 := S51.trans S_
      have h89 := h89.mono S_
      have h103 := S_ _ _ h103
      have hl104 := hl104.mono S_
      have h116 := h116.mono S_
      have h130 := S_ _ _ h130
      have hl131 := hl131.mono S_
      have r146 := r146.mono S_
      have r157 := r157.mono S_
      have hl166 := hl166.mono S_
      have r174 := r174.mono S_
      have h194 := h194.mono S_
      refine ⟨_, rfl, _, rfl, _, _, _, _, _, rfl, O202.pre0, r201, r157, wp_call hk (fun r203 er204 hk F205 H206 g207 p208 w209 hn210 hf211 h212 hl213 => ?_) (fun n hn C H1 hC kp => hn.elim)⟩
      have O214 := O202.call0 g207
      have S_ := g207.f
      have f_script := S_.seq f_script
      have h7 := h7.mono S_
      have h15 := h15.mono S_
      have h20 := S_ _ _ h20
      have hl21 := hl21.mono S_
      have h25 := S_ _ _ h25
      have hl26 := hl26.mono S_
      have h34 := h34.mono S_
      have h39 := S_ _ _ h39
      have hl40 := hl40.mono S_
      have S51 := S51.trans S_
      have h89 := h89.mono S_
      have h103 := S_ _ _ h103
      have hl104 := hl104.mono S_
      have h116 := h116.mono S_
      have h130 := S_ _ _ h130
      have hl131 := hl131.mono S_
      have r146 := r146.mono S_
      have r157 := r157.mono S_
      have hl166 := hl166.mono S_
      have r174 := r174.mono S_
      have h194 := h194.mono S_
      have r201 := r201.mono S_
      have O215 := O202.got O214 rfl hn210 hf211 h212
      have z216 := O202.was hn210
      obtain ⟨F217, O218, S219, h220⟩ := O215.frzE 0 rfl z216
      have f_script := S219.seq f_script
      have h7 := h7.mono S219
      have h15 := h15.mono S219
      have h20 := S219 _ _ h20
      have hl21 := hl21.mono S219
      have h25 := S219 _ _ h25
      have hl26 := hl26.mono S219
      have h34 := h34.mono S219
      have h39 := S219 _ _ h39
      have hl40 := hl40.mono S219
      have S51 := S51.trans S219
      have h89 := h89.mono S219
      have h103 := S219 _ _ h103
      have hl104 := hl104.mono S219
      have h116 := h116.mono S219
      have h130 := S219 _ _ h130
      have hl131 := hl131.mono S219
      have r146 := r146.mono S219
      have r157 := r157.mono S219
      have hl166 := hl166.mono S219
      have r174 := r174.mono S219
      have h194 := h194.mono S219
      have r201 := r201.mono S219
      have hl213 := hl213.mono S219
      have h221 := R.lst (a := Int) h220 hl213
      obtain ⟨p222, w223, e224, h225, hl226⟩ := R.lst_ h194
      cases e224
      obtain ⟨c232, L228, hL229, hLs230, hLd231⟩ := compS_L hk
      refine ⟨_, rfl, _, rfl, ⟨_, (SqLF O218.s h225)⟩, fun p233 hp234 => ?_⟩
      have z251 := O218.was hp234
      refine lc_list (K := K) (xs := w223) (fun i H => ∃ (F_ : Hp) (st : Unit) (acc : List Int) (wa : List V), Same F217 F_ ∧ Ow _ F_ [(p233, .lst wa), (p74, .lst w164)] H ∧ RL F_ wa acc ∧ wa.length ≤ i ∧ L228 (List.drop i r176) acc st) ⟨F217, (), [], [], Same.refl _, O218.new hp234, RL.nil, Nat.zero_le _, hL229⟩ (fun i_ H_ _ hp_ => ?_) ?_ ?_
      · obtain ⟨_, _, _, _, hS_, hO_, _⟩ := hp_
        exact SqLF hO_.s (hS_ _ _ h225)
      · rintro i235 x236 H237 hi238 ⟨F243, st244, acc240, wa241, S245, O247, hl246, la242, hL229⟩
        have f_script := S245.seq f_script
        have h7 := h7.mono S245
        have h15 := h15.mono S245
        have h20 := S245 _ _ h20
        have hl21 := hl21.mono S245
        have h25 := S245 _ _ h25
        have hl26 := hl26.mono S245
        have h34 := h34.mono S245
        have h39 := S245 _ _ h39
        have hl40 := hl40.mono S245
        have S51 := S51.trans S245
        have h89 := h89.mono S245
        have h103 := S245 _ _ h103
        have hl104 := hl104.mono S245
        have h116 := h116.mono S245
        have h130 := S245 _ _ h130
        have hl131 := hl131.mono S245
        have r146 := r146.mono S245
        have r157 := r157.mono S245
        have hl166 := hl166.mono S245
        have r174 := r174.mono S245
        have h194 := h194.mono S245
        have r201 := r201.mono S245
        have h221 := h221.mono S245
        have h225 := S245 _ _ h225
        have hl226 := hl226.mono S245
        obtain ⟨y227, e248, r249⟩ := RL.got hl226 hi238
        rw [drop_at e248] at hL229
        have hk := hLs230 _ _ _ _ hL229
        obtain rfl := R.int_ r249
        refine ⟨rfl, ?_⟩
        obtain ⟨c250, hk⟩ := wp_chk hk
        refine ⟨_, rfl, _, rfl, _, _, rfl, rfl, c250, _, (O247.at 0 rfl), (comp_len la242 hi238 hl226.len c232), ?_⟩
        exact ⟨F243, (), acc240 ++ [(((1 : Int) + r159.1) * y227)], wa241 ++ [V.int (((1 : Int) + r159.1) * y227)], S245, O247.set 0 (.lst (wa241 ++ [V.int (((1 : Int) + r159.1) * y227)])) rfl, RL.snoc hl246 R.int, by rw [List.length_append]; exact Nat.succ_le_succ la242, hk⟩
      rintro H252 ⟨F253, st254, acc255, wa256, S257, O258, hl259, la260, hL261⟩
      rw [drop_end hl226.len] at hL261
      have hk := hLd231 _ _ hL261
      have f_script := S257.seq f_script
      have h7 := h7.mono S257
      have h15 := h15.mono S257
      have h20 := S257 _ _ h20
      have hl21 := hl21.mono S257
      have h25 := S257 _ _ h25
      have hl26 := hl26.mono S257
      have h34 := h34.mono S257
      have h39 := S257 _ _ h39
      have hl40 := hl40.mono S257
      have S51 := S51.trans S257
      have h89 := h89.mono S257
      have h103 := S257 _ _ h103
      have hl104 := hl104.mono S257
      have h116 := h116.mono S257
      have h130 := S257 _ _ h130
      have hl131 := hl131.mono S257
      have r146 := r146.mono S257
      have r157 := r157.mono S257
      have hl166 := hl166.mono S257
      have r174 := r174.mono S257
      have h194 := h194.mono S257
      have r201 := r201.mono S257
      have h221 := h221.mono S257
      have h225 := S257 _ _ h225
      have hl226 := hl226.mono S257
      obtain ⟨F263, O264, S265, h266⟩ := O258.frzE 0 rfl z251
      have f_script := S265.seq f_script
      have h7 := h7.mono S265
      have h15 := h15.mono S265
      have h20 := S265 _ _ h20
      have hl21 := hl21.mono S265
      have h25 := S265 _ _ h25
      have hl26 := hl26.mono S265
      have h34 := h34.mono S265
      have h39 := S265 _ _ h39
      have hl40 := hl40.mono S265
      have S51 := S51.trans S265
      have h89 := h89.mono S265
      have h103 := S265 _ _ h103
      have hl104 := hl104.mono S265
      have h116 := h116.mono S265
      have h130 := S265 _ _ h130
      have hl131 := hl131.mono S265
      have r146 := r146.mono S265
      have r157 := r157.mono S265
      have hl166 := hl166.mono S265
      have r174 := r174.mono S265
      have h194 := h194.mono S265
      have r201 := r201.mono S265
      have h221 := h221.mono S265
      have h225 := S265 _ _ h225
      have hl226 := hl226.mono S265
      have hl259 := hl259.mono S265
      have h267 := R.lst (a := Int) h266 hl259
      refine ⟨_, _, (R.mono h221 O264.s), (R.mono h267 O264.s), _, rfl, ?_⟩
      refine iteD (fun q268 => ?_) (fun q268 => ?_)
      · have hk := wp_if hk q268
        exact hk _ _  O264.g 
      · have hk := wp_el hk q268
        refine ⟨_, rfl, _, rfl, _, _, _, _, _, rfl, O264.pre0, r201, r157, wp_call hk (fun r269 er270 hk F271 H272 g273 v274 r275 => ?_) (fun n hn C H1 hC kp => hn.elim)⟩
        have O276 := O264.call0 g273
        have S_ := g273.f
        have f_script := S_.seq f_script
        have h7 := h7.mono S_
        have h15 := h15.mono S_
        have h20 := S_ _ _ h20
        have hl21 := hl21.mono S_
        have h25 := S_ _ _ h25
        have hl26 := hl26.mono S_
        have h34 := h34.mono S_
        have h39 := S_ _ _ h39
        have hl40 := hl40.mono S_
        have S51 := S51.trans S_
        have h89 := h89.mono S_
        have h103 := S_ _ _ h103
        have hl104 := hl104.mono S_
        have h116 := h116.mono S_
        have h130 := S_ _ _ h130
        have hl131 := hl131.mono S_
        have r146 := r146.mono S_
        have r157 := r157.mono S_
        have hl166 := hl166.mono S_
        have r174 := r174.mono S_
        have h194 := h194.mono S_
        have r201 := r201.mono S_
        have h221 := h221.mono S_
        have h225 := S_ _ _ h225
        have hl226 := hl226.mono S_
        have h267 := h267.mono S_
        obtain ⟨p277, w278, e279, h280, hl281⟩ := R.lst_ r174
        cases e279
        obtain ⟨c287, L283, hL284, hLs285, hLd286⟩ := compS_L hk
        refine ⟨_, rfl, _, rfl, ⟨_, (SqLF O276.s h280)⟩, fun p288 hp289 => ?_⟩
        have z365 := O276.was hp289
        refine lc_list (K := K) (xs := w278) (fun i H => ∃ (F_ : Hp) (st : Unit) (acc : List ((Int × Int) × (List Int))) (wa : List V), Same F271 F_ ∧ Ow _ F_ [(p288, .lst wa), (p74, .lst w164)] H ∧ RL F_ wa acc ∧ wa.length ≤ i ∧ L283 (List.drop i r168) acc st) ⟨F271, (), [], [], Same.refl _, O276.new hp289, RL.nil, Nat.zero_le _, hL284⟩ (fun i_ H_ _ hp_ => ?_) ?_ ?_
        · obtain ⟨_, _, _, _, hS_, hO_, _⟩ := hp_
          exact SqLF hO_.s (hS_ _ _ h280)
        · rintro i290 x291 H292 hi293 ⟨F298, st299, acc295, wa296, S300, O302, hl301, la297, hL284⟩
          have f_script := S300.seq f_script
          have h7 := h7.mono S300
          have h15 := h15.mono S300
          have h20 := S300 _ _ h20
          have hl21 := hl21.mono S300
          have h25 := S300 _ _ h25
          have hl26 := hl26.mono S300
          have h34 := h34.mono S300
          have h39 := S300 _ _ h39
          have hl40 := hl40.mono S300
          have S51 := S51.trans S300
          have h89 := h89.mono S300
          have h103 := S300 _ _ h103
          have hl104 := hl104.mono S300
          have h116 := h116.mono S300
          have h130 := S300 _ _ h130
          have hl131 := hl131.mono S300
          have r146 := r146.mono S300
          have r157 := r157.mono S300
          have hl166 := hl166.mono S300
          have r174 := r174.mono S300
          have h194 := h194.mono S300
          have r201 := r201.mono S300
          have h221 := h221.mono S300
          have h225 := S300 _ _ h225
          have hl226 := hl226.mono S300
          have h267 := h267.mono S300
          have r275 := r275.mono S300
          have h280 := S300 _ _ h280
          have hl281 := hl281.mono S300
          obtain ⟨y282, e303, r304⟩ := RL.got hl281 hi293
          rw [drop_at e303] at hL284
          have hk := hLs285 _ _ _ _ hL284
          obtain ⟨p305, v308, v309, e306, h307, r310, r311⟩ := R.t2_ r304
          cases e306
          refine ⟨_, _, rfl, (SqTF O302.s h307), rfl, _, _, rfl, _, _, rfl, rfl, rfl, ?_⟩
          obtain ⟨p312, w313, e314, h315, hl316⟩ := R.lst_ r311
          cases e314
          obtain ⟨c322, L318, hL319, hLs320, hLd321⟩ := compS_L hk
          refine ⟨_, rfl, _, rfl, _, rfl, ⟨_, (SqLF O302.s h315)⟩, fun p323 hp324 => ?_⟩
          have z341 := O302.was hp324
          refine lc_list (K := K) (xs := w313) (fun i H => ∃ (F_ : Hp) (st : Unit) (acc : List Int) (wa : List V), Same F298 F_ ∧ Ow _ F_ [(p323, .lst wa), (p288, .lst wa296), (p74, .lst w164)] H ∧ RL F_ wa acc ∧ wa.length ≤ i ∧ L318 (List.drop i y282.2) acc st) ⟨F298, (), [], [], Same.refl _, O302.new hp324, RL.nil, Nat.zero_le _, hL319⟩ (fun i_ H_ _ hp_ => ?_) ?_ ?_
          · obtain ⟨_, _, _, _, hS_, hO_, _⟩ := hp_
            exact SqLF hO_.s (hS_ _ _ h315)
          · rintro i325 x326 H327 hi328 ⟨F333, st334, acc330, wa331, S335, O337, hl336, la332, hL319⟩
            have f_script := S335.seq f_script
            have h7 := h7.mono S335
            have h15 := h15.mono S335
            have h20 := S335 _ _ h20
            have hl21 := hl21.mono S335
            have h25 := S335 _ _ h25
            have hl26 := hl26.mono S335
            have h34 := h34.mono S335
            have h39 := S335 _ _ h39
            have hl40 := hl40.mono S335
            have S51 := S51.trans S335
            have h89 := h89.mono S335
            have h103 := S335 _ _ h103
            have hl104 := hl104.mono S335
            have h116 := h116.mono S335
            have h130 := S335 _ _ h130
            have hl131 := hl131.mono S335
            have r146 := r146.mono S335
            have r157 := r157.mono S335
            have hl166 := hl166.mono S335
            have r174 := r174.mono S335
            have h194 := h194.mono S335
            have r201 := r201.mono S335
            have h221 := h221.mono S335
            have h225 := S335 _ _ h225
            have hl226 := hl226.mono S335
            have h267 := h267.mono S335
            have r275 := r275.mono S335
            have h280 := S335 _ _ h280
            have hl281 := hl281.mono S335
            have S300 := S300.trans S335
            have hl301 := hl301.mono S335
            have r304 := r304.mono S335
            have h307 := S335 _ _ h307
            have r310 := r310.mono S335
            have r311 := r311.mono S335
            have h315 := S335 _ _ h315
            have hl316 := hl316.mono S335
            obtain ⟨y317, e338, r339⟩ := RL.got hl316 hi328
            rw [drop_at e338] at hL319
            have hk := hLs320 _ _ _ _ hL319
            obtain rfl := R.int_ r339
            refine ⟨rfl, ?_⟩
            obtain ⟨c340, hk⟩ := wp_chk hk
            refine ⟨_, rfl, _, rfl, _, _, rfl, rfl, c340, _, (O337.at 0 rfl), (comp_len la332 hi328 hl316.len c322), ?_⟩
            exact ⟨F333, (), acc330 ++ [(((1 : Int) + r159.1) * y317)], wa331 ++ [V.int (((1 : Int) + r159.1) * y317)], S335, O337.set 0 (.lst (wa331 ++ [V.int (((1 : Int) + r159.1) * y317)])) rfl, RL.snoc hl336 R.int, by rw [List.length_append]; exact Nat.succ_le_succ la332, hk⟩
          rintro H342 ⟨F343, st344, acc345, wa346, S347, O348, hl349, la350, hL351⟩
          rw [drop_end hl316.len] at hL351
          have hk := hLd321 _ _ hL351
          have f_script := S347.seq f_script
          have h7 := h7.mono S347
          have h15 := h15.mono S347
          have h20 := S347 _ _ h20
          have hl21 := hl21.mono S347
          have h25 := S347 _ _ h25
          have hl26 := hl26.mono S347
          have h34 := h34.mono S347
          have h39 := S347 _ _ h39
          have hl40 := hl40.mono S347
          have S51 := S51.trans S347
          have h89 := h89.mono S347
          have h103 := S347 _ _ h103
          have hl104 := hl104.mono S347
          have h116 := h116.mono S347
          have h130 := S347 _ _ h130
          have hl131 := hl131.mono S347
          have r146 := r146.mono S347
          have r157 := r157.mono S347
          have hl166 := hl166.mono S347
          have r174 := r174.mono S347
          have h194 := h194.mono S347
          have r201 := r201.mono S347
          have h221 := h221.mono S347
          have h225 := S347 _ _ h225
          have hl226 := hl226.mono S347
          have h267 := h267.mono S347
          have r275 := r275.mono S347
          have h280 := S347 _ _ h280
          have hl281 := hl281.mono S347
          have S300 := S300.trans S347
          have hl301 := hl301.mono S347
          have r304 := r304.mono S347
          have h307 := S347 _ _ h307
          have r310 := r310.mono S347
          have r311 := r311.mono S347
          have h315 := S347 _ _ h315
          have hl316 := hl316.mono S347
          obtain ⟨F353, O354, S355, h356⟩ := O348.frzE 0 rfl z341
          have f_script := S355.seq f_script
          have h7 := h7.mono S355
          have h15 := h15.mono S355
          have h20 := S355 _ _ h20
          have hl21 := hl21.mono S355
          have h25 := S355 _ _ h25
          have hl26 := hl26.mono S355
          have h34 := h34.mono S355
          have h39 := S355 _ _ h39
          have hl40 := hl40.mono S355
          have S51 := S51.trans S355
          have h89 := h89.mono S355
          have h103 := S355 _ _ h103
          have hl104 := hl104.mono S355
          have h116 := h116.mono S355
          have h130 := S355 _ _ h130
          have hl131 := hl131.mono S355
          have r146 := r146.mono S355
          have r157 := r157.mono S355
          have hl166 := hl166.mono S355
          have r174 := r174.mono S355
          have h194 := h194.mono S355
          have r201 := r201.mono S355
          have h221 := h221.mono S355
          have h225 := S355 _ _ h225
          have hl226 := hl226.mono S355
          have h267 := h267.mono S355
          have r275 := r275.mono S355
          have h280 := S355 _ _ h280
          have hl281 := hl281.mono S355
          have S300 := S300.trans S355
          have hl301 := hl301.mono S355
          have r304 := r304.mono S355
          have h307 := S355 _ _ h307
          have r310 := r310.mono S355
          have r311 := r311.mono S355
          have h315 := S355 _ _ h315
          have hl316 := hl316.mono S355
          have hl349 := hl349.mono S355
          have h357 := R.lst (a := Int) h356 hl349
          refine ⟨(by show 2 ≤ sizeLine; decide), fun p358 hp359 => ?_⟩
          obtain ⟨F360, O361, S362, h363⟩ := O354.putE hp359 (.tup [v308, V.ref p323])
          have f_script := S362.seq f_script
          have h7 := h7.mono S362
          have h15 := h15.mono S362
          have h20 := S362 _ _ h20
          have hl21 := hl21.mono S362
          have h25 := S362 _ _ h25
          have hl26 := hl26.mono S362
          have h34 := h34.mono S362
          have h39 := S362 _ _ h39
          have hl40 := hl40.mono S362
          have S51 := S51.trans S362
          have h89 := h89.mono S362
          have h103 := S362 _ _ h103
          have hl104 := hl104.mono S362
          have h116 := h116.mono S362
          have h130 := S362 _ _ h130
          have hl131 := hl131.mono S362
          have r146 := r146.mono S362
          have r157 := r157.mono S362
          have hl166 := hl166.mono S362
          have r174 := r174.mono S362
          have h194 := h194.mono S362
          have r201 := r201.mono S362
          have h221 := h221.mono S362
          have h225 := S362 _ _ h225
          have hl226 := hl226.mono S362
          have h267 := h267.mono S362
          have r275 := r275.mono S362
          have h280 := S362 _ _ h280
          have hl281 := hl281.mono S362
          have S300 := S300.trans S362
          have hl301 := hl301.mono S362
          have r304 := r304.mono S362
          have h307 := S362 _ _ h307
          have r310 := r310.mono S362
          have r311 := r311.mono S362
          have h315 := S362 _ _ h315
          have hl316 := hl316.mono S362
          have h357 := h357.mono S362
          have h364 : R (a := ((Int × Int) × (List Int))) F360 (.ref p358) (y282.1, acc345) := R.t2 h363 r310 h357
          refine ⟨_, (O361.at 0 rfl), (comp_len la297 hi293 hl281.len c287), ?_⟩
          exact ⟨F360, (), acc295 ++ [(y282.1, acc345)], wa296 ++ [V.ref p358], S300, O361.set 0 (.lst (wa296 ++ [V.ref p358])) rfl, RL.snoc hl301 h364, by rw [List.length_append]; exact Nat.succ_le_succ la297, hk⟩
        rintro H366 ⟨F367, st368, acc369, wa370, S371, O372, hl373, la374, hL375⟩
        rw [drop_end hl281.len] at hL375
        have hk := hLd286 _ _ hL375
        have f_script := S371.seq f_script
        have h7 := h7.mono S371
        have h15 := h15.mono S371
        have h20 := S371 _ _ h20
        have hl21 := hl21.mono S371
        have h25 := S371 _ _ h25
        have hl26 := hl26.mono S371
        have h34 := h34.mono S371
        have h39 := S371 _ _ h39
        have hl40 := hl40.mono S371
        have S51 := S51.trans S371
        have h89 := h89.mono S371
        have h103 := S371 _ _ h103
        have hl104 := hl104.mono S371
        have h116 := h116.mono S371
        have h130 := S371 _ _ h130
        have hl131 := hl131.mono S371
        have r146 := r146.mono S371
        have r157 := r157.mono S371
        have hl166 := hl166.mono S371
        have r174 := r174.mono S371
        have h194 := h194.mono S371
        have r201 := r201.mono S371
        have h221 := h221.mono S371
        have h225 := S371 _ _ h225
        have hl226 := hl226.mono S371
        have h267 := h267.mono S371
        have r275 := r275.mono S371
        have h280 := S371 _ _ h280
        have hl281 := hl281.mono S371
        obtain ⟨F377, O378, S379, h380⟩ := O372.frzE 0 rfl z365
        have f_script := S379.seq f_script
        have h7 := h7.mono S379
        have h15 := h15.mono S379
        have h20 := S379 _ _ h20
        have hl21 := hl21.mono S379
        have h25 := S379 _ _ h25
        have hl26 := hl26.mono S379
        have h34 := h34.mono S379
        have h39 := S379 _ _ h39
        have hl40 := hl40.mono S379
        have S51 := S51.trans S379
        have h89 := h89.mono S379
        have h103 := S379 _ _ h103
        have hl104 := hl104.mono S379
        have h116 := h116.mono S379
        have h130 := S379 _ _ h130
        have hl131 := hl131.mono S379
        have r146 := r146.mono S379
        have r157 := r157.mono S379
        have hl166 := hl166.mono S379
        have r174 := r174.mono S379
        have h194 := h194.mono S379
        have r201 := r201.mono S379
        have h221 := h221.mono S379
        have h225 := S379 _ _ h225
        have hl226 := hl226.mono S379
        have h267 := h267.mono S379
        have r275 := r275.mono S379
        have h280 := S379 _ _ h280
        have hl281 := hl281.mono S379
        have hl373 := hl373.mono S379
        have h381 := R.lst (a := ((Int × Int) × (List Int))) h380 hl373
        refine ⟨_, _, (R.mono r275 O378.s), (R.mono h381 O378.s), _, rfl, ?_⟩
        refine iteD (fun q382 => ?_) (fun q382 => ?_)
        · have hk := wp_if hk q382
          exact hk _ _  O378.g 
        · have hk := wp_el hk q382
          refine ⟨_, rfl, _, rfl, _, _, _, _, _, rfl, O378.pre0, r201, r157, wp_call hk (fun r383 er384 hk F385 H386 g387 p388 w389 hn390 hf391 h392 hl393 => ?_) (fun n hn C H1 hC kp => hn.elim)⟩
          have O394 := O378.call0 g387
          have S_ := g387.f
          have f_script := S_.seq f_script
          have h7 := h7.mono S_
          have h15 := h15.mono S_
          have h20 := S_ _ _ h20
          have hl21 := hl21.mono S_
          have h25 := S_ _ _ h25
          have hl26 := hl26.mono S_
          have h34 := h34.mono S_
          have h39 := S_ _ _ h39
          have hl40 := hl40.mono S_
          have S51 := S51.trans S_
          have h89 := h89.mono S_
          have h103 := S_ _ _ h103
          have hl104 := hl104.mono S_
          have h116 := h116.mono S_
          have h130 := S_ _ _ h130
          have hl131 := hl131.mono S_
          have r146 := r146.mono S_
          have r157 := r157.mono S_
          have hl166 := hl166.mono S_
          have r174 := r174.mono S_
          have h194 := h194.mono S_
          have r201 := r201.mono S_
          have h221 := h221.mono S_
          have h225 := S_ _ _ h225
          have hl226 := hl226.mono S_
          have h267 := h267.mono S_
          have r275 := r275.mono S_
          have h280 := S_ _ _ h280
          have hl281 := hl281.mono S_
          have h381 := h381.mono S_
          have O395 := O378.got O394 rfl hn390 hf391 h392
          have z396 := O378.was hn390
          obtain ⟨F397, O398, S399, h400⟩ := O395.frzE 0 rfl z396
          have f_script := S399.seq f_script
          have h7 := h7.mono S399
          have h15 := h15.mono S399
          have h20 := S399 _ _ h20
          have hl21 := hl21.mono S399
          have h25 := S399 _ _ h25
          have hl26 := hl26.mono S399
          have h34 := h34.mono S399
          have h39 := S399 _ _ h39
          have hl40 := hl40.mono S399
          have S51 := S51.trans S399
          have h89 := h89.mono S399
          have h103 := S399 _ _ h103
          have hl104 := hl104.mono S399
          have h116 := h116.mono S399
          have h130 := S399 _ _ h130
          have hl131 := hl131.mono S399
          have r146 := r146.mono S399
          have r157 := r157.mono S399
          have hl166 := hl166.mono S399
          have r174 := r174.mono S399
          have h194 := h194.mono S399
          have r201 := r201.mono S399
          have h221 := h221.mono S399
          have h225 := S399 _ _ h225
          have hl226 := hl226.mono S399
          have h267 := h267.mono S399
          have r275 := r275.mono S399
          have h280 := S399 _ _ h280
          have hl281 := hl281.mono S399
          have h381 := h381.mono S399
          have hl393 := hl393.mono S399
          have h401 := R.lst (a := Int) h400 hl393
          refine ⟨_, rfl, _, rfl, _, _, _, _, _, rfl, O398.pre0, r146, r157, wp_call hk (fun r402 er403 hk F404 H405 g406 p407 w408 hn409 hf410 h411 hl412 => ?_) (fun n hn C H1 hC kp => hn.elim)⟩
          have O413 := O398.call0 g406
          have S_ := g406.f
          have f_script := S_.seq f_script
          have h7 := h7.mono S_
          have h15 := h15.mono S_
          have h20 := S_ _ _ h20
          have hl21 := hl21.mono S_
          have h25 := S_ _ _ h25
          have hl26 := hl26.mono S_
          have h34 := h34.mono S_
          have h39 := S_ _ _ h39
          have hl40 := hl40.mono S_
          have S51 := S51.trans S_
          have h89 := h89.mono S_
          have h103 := S_ _ _ h103
          have hl104 := hl104.mono S_
          have h116 := h116.mono S_
          have h130 := S_ _ _ h130
          have hl131 := hl131.mono S_
          have r146 := r146.mono S_
          have r157 := r157.mono S_
          have hl166 := hl166.mono S_
          have r174 := r174.mono S_
          have h194 := h194.mono S_
          have r201 := r201.mono S_
          have h221 := h221.mono S_
          have h225 := S_ _ _ h225
          have hl226 := hl226.mono S_
          have h267 := h267.mono S_
          have r275 := r275.mono S_
          have h280 := S_ _ _ h280
          have hl281 := hl281.mono S_
          have h381 := h381.mono S_
          have h401 := h401.mono S_
          have O414 := O398.got O413 rfl hn409 hf410 h411
          have z415 := O398.was hn409
          obtain ⟨F416, O417, S418, h419⟩ := O414.frzE 0 rfl z415
          have f_script := S418.seq f_script
          have h7 := h7.mono S418
          have h15 := h15.mono S418
          have h20 := S418 _ _ h20
          have hl21 := hl21.mono S418
          have h25 := S418 _ _ h25
          have hl26 := hl26.mono S418
          have h34 := h34.mono S418
          have h39 := S418 _ _ h39
          have hl40 := hl40.mono S418
          have S51 := S51.trans S418
          have h89 := h89.mono S418
          have h103 := S418 _ _ h103
          have hl104 := hl104.mono S418
          have h116 := h116.mono S418
          have h130 := S418 _ _ h130
          have hl131 := hl131.mono S418
          have r146 := r146.mono S418
          have r157 := r157.mono S418
          have hl166 := hl166.mono S418
          have r174 := r174.mono S418
          have h194 := h194.mono S418
          have r201 := r201.mono S418
          have h221 := h221.mono S418
          have h225 := S418 _ _ h225
          have hl226 := hl226.mono S418
          have h267 := h267.mono S418
          have r275 := r275.mono S418
          have h280 := S418 _ _ h280
          have hl281 := hl281.mono S418
          have h381 := h381.mono S418
          have h401 := h401.mono S418
          have hl412 := hl412.mono S418
          have h420 := R.lst (a := Int) h419 hl412
          refine ⟨_, _, (R.mono h401 O417.s), (R.mono h420 O417.s), _, rfl, ?_⟩
          refine iteD (fun q421 => ?_) (fun q421 => ?_)
          · have hk := wp_if hk q421
            refine iteT ?_
            exact hk _ _  O417.g 
          · have hk := wp_el hk q421
            refine ⟨_, rfl, _, rfl, _, _, _, _, _, rfl, O417.pre0, r201, r157, wp_call hk (fun r422 er423 hk F424 H425 g426 p427 w428 hn429 hf430 h431 hl432 => ?_) (fun n hn C H1 hC kp => hn.elim)⟩
            have O433 := O417.call0 g426
            have S_ := g426.f
            have f_script := S_.seq f_script
            have h7 := h7.mono S_
            have h15 := h15.mono S_
            have h20 := S_ _ _ h20
            have hl21 := hl21.mono S_
            have h25 := S_ _ _ h25
            have hl26 := hl26.mono S_
            have h34 := h34.mono S_
            have h39 := S_ _ _ h39
            have hl40 := hl40.mono S_
            have S51 := S51.trans S_
            have h89 := h89.mono S_
            have h103 := S_ _ _ h103
            have hl104 := hl104.mono S_
            have h116 := h116.mono S_
            have h130 := S_ _ _ h130
            have hl131 := hl131.mono S_
            have r146 := r146.mono S_
            have r157 := r157.mono S_
            have hl166 := hl166.mono S_
            have r174 := r174.mono S_
            have h194 := h194.mono S_
            have r201 := r201.mono S_
            have h221 := h221.mono S_
            have h225 := S_ _ _ h225
            have hl226 := hl226.mono S_
            have h267 := h267.mono S_
            have r275 := r275.mono S_
            have h280 := S_ _ _ h280
            have hl281 := hl281.mono S_
            have h381 := h381.mono S_
            have h401 := h401.mono S_
            have h420 := h420.mono S_
            have O434 := O417.got O433 rfl hn429 hf430 h431
            have z435 := O417.was hn429
            obtain ⟨F436, O437, S438, h439⟩ := O434.frzE 0 rfl z435
            have f_script := S438.seq f_script
            have h7 := h7.mono S438
            have h15 := h15.mono S438
            have h20 := S438 _ _ h20
            have hl21 := hl21.mono S438
            have h25 := S438 _ _ h25
            have hl26 := hl26.mono S438
            have h34 := h34.mono S438
            have h39 := S438 _ _ h39
            have hl40 := hl40.mono S438
            have S51 := S51.trans S438
            have h89 := h89.mono S438
            have h103 := S438 _ _ h103
            have hl104 := hl104.mono S438
            have h116 := h116.mono S438
            have h130 := S438 _ _ h130
            have hl131 := hl131.mono S438
            have r146 := r146.mono S438
            have r157 := r157.mono S438
            have hl166 := hl166.mono S438
            have r174 := r174.mono S438
            have h194 := h194.mono S438
            have r201 := r201.mono S438
            have h221 := h221.mono S438
            have h225 := S438 _ _ h225
            have hl226 := hl226.mono S438
            have h267 := h267.mono S438
            have r275 := r275.mono S438
            have h280 := S438 _ _ h280
            have hl281 := hl281.mono S438
            have h381 := h381.mono S438
            have h401 := h401.mono S438
            have h420 := h420.mono S438
            have hl432 := hl432.mono S438
            have h440 := R.lst (a := Int) h439 hl432
            refine ⟨_, rfl, _, rfl, _, _, _, _, _, rfl, O437.pre0, r146, r157, wp_call hk (fun r441 er442 hk F443 H444 g445 p446 w447 hn448 hf449 h450 hl451 => ?_) (fun n hn C H1 hC kp => hn.elim)⟩
            have O452 := O437.call0 g445
            have S_ := g445.f
            have f_script := S_.seq f_script
            have h7 := h7.mono S_
            have h15 := h15.mono S_
            have h20 := S_ _ _ h20
            have hl21 := hl21.mono S_
            have h25 := S_ _ _ h25
            have hl26 := hl26.mono S_
            have h34 := h34.mono S_
            have h39 := S_ _ _ h39
            have hl40 := hl40.mono S_
            have S51 := S51.trans S_
            have h89 := h89.mono S_
            have h103 := S_ _ _ h103
            have hl104 := hl104.mono S_
            have h116 := h116.mono S_
            have h130 := S_ _ _ h130
            have hl131 := hl131.mono S_
            have r146 := r146.mono S_
            have r157 := r157.mono S_
            have hl166 := hl166.mono S_
            have r174 := r174.mono S_
            have h194 := h194.mono S_
            have r201 := r201.mono S_
            have h221 := h221.mono S_
            have h225 := S_ _ _ h225
            have hl226 := hl226.mono S_
            have h267 := h267.mono S_
            have r275 := r275.mono S_
            have h280 := S_ _ _ h280
            have hl281 := hl281.mono S_
            have h381 := h381.mono S_
            have h401 := h401.mono S_
            have h420 := h420.mono S_
            have h440 := h440.mono S_
            have O453 := O437.got O452 rfl hn448 hf449 h450
            have z454 := O437.was hn448
            obtain ⟨F455, O456, S457, h458⟩ := O453.frzE 0 rfl z454
            have f_script := S457.seq f_script
            have h7 := h7.mono S457
            have h15 := h15.mono S457
            have h20 := S457 _ _ h20
            have hl21 := hl21.mono S457
            have h25 := S457 _ _ h25
            have hl26 := hl26.mono S457
            have h34 := h34.mono S457
            have h39 := S457 _ _ h39
            have hl40 := hl40.mono S457
            have S51 := S51.trans S457
            have h89 := h89.mono S457
            have h103 := S457 _ _ h103
            have hl104 := hl104.mono S457
            have h116 := h116.mono S457
            have h130 := S457 _ _ h130
            have hl131 := hl131.mono S457
            have r146 := r146.mono S457
            have r157 := r157.mono S457
            have hl166 := hl166.mono S457
            have r174 := r174.mono S457
            have h194 := h194.mono S457
            have r201 := r201.mono S457
            have h221 := h221.mono S457
            have h225 := S457 _ _ h225
            have hl226 := hl226.mono S457
            have h267 := h267.mono S457
            have r275 := r275.mono S457
            have h280 := S457 _ _ h280
            have hl281 := hl281.mono S457
            have h381 := h381.mono S457
            have h401 := h401.mono S457
            have h420 := h420.mono S457
            have h440 := h440.mono S457
            have hl451 := hl451.mono S457
            have h459 := R.lst (a := Int) h458 hl451
            refine ⟨_, _, (R.mono h440 O456.s), (R.mono h459 O456.s), _, rfl, ?_⟩
            refine iteD (fun q460 => ?_) (fun q460 => ?_)
            · have hk := wp_if hk q460
              exact hk _ _  O456.g 
            · have hk := wp_el hk q460
              obtain ⟨p461, v464, v465, v466, v467, e462, h463, r468, r469, r470, r471⟩ := R.t4_ r157
              cases e462
              refine ⟨_, rfl, _, rfl, _, _, rfl, (SqTF O456.s h463), (sl43 _ _ _ _), fun p472 hp473 => ?_⟩
              obtain ⟨F474, O475, S476, h477⟩ := O456.putE hp473 (.tup [v464, v465, v466])
              have f_script := S476.seq f_script
              have h7 := h7.mono S476
              have h15 := h15.mono S476
              have h20 := S476 _ _ h20
              have hl21 := hl21.mono S476
              have h25 := S476 _ _ h25
              have hl26 := hl26.mono S476
              have h34 := h34.mono S476
              have h39 := S476 _ _ h39
              have hl40 := hl40.mono S476
              have S51 := S51.trans S476
              have h89 := h89.mono S476
              have h103 := S476 _ _ h103
              have hl104 := hl104.mono S476
              have h116 := h116.mono S476
              have h130 := S476 _ _ h130
              have hl131 := hl131.mono S476
              have r146 := r146.mono S476
              have r157 := r157.mono S476
              have hl166 := hl166.mono S476
              have r174 := r174.mono S476
              have h194 := h194.mono S476
              have r201 := r201.mono S476
              have h221 := h221.mono S476
              have h225 := S476 _ _ h225
              have hl226 := hl226.mono S476
              have h267 := h267.mono S476
              have r275 := r275.mono S476
              have h280 := S476 _ _ h280
              have hl281 := hl281.mono S476
              have h381 := h381.mono S476
              have h401 := h401.mono S476
              have h420 := h420.mono S476
              have h440 := h440.mono S476
              have h459 := h459.mono S476
              have h463 := S476 _ _ h463
              have r468 := r468.mono S476
              have r469 := r469.mono S476
              have r470 := r470.mono S476
              have r471 := r471.mono S476
              have hl478 : RL (a := (List Sm)) F474 [v464, v465, v466] [r148.1.a, r148.1.b, r148.1.c] := RL.cons r468 (RL.cons r469 (RL.cons r470 RL.nil))
              obtain ⟨c484, L480, hL481, hLs482, hLd483⟩ := compS_L hk
              refine ⟨_, rfl, ⟨_, (SqTF O475.s h477)⟩, fun p485 hp486 => ?_⟩
              have z555 := O475.was hp486
              refine lc_tup (K := K) (xs := [v464, v465, v466]) (fun i H => ∃ (F_ : Hp) (st : Unit) (acc : List (List Sm)) (wa : List V), Same F474 F_ ∧ Ow _ F_ [(p485, .lst wa), (p74, .lst w164)] H ∧ RL F_ wa acc ∧ wa.length ≤ i ∧ L480 (List.drop i ([r148.1.a, r148.1.b, r148.1.c])) acc st) ⟨F474, (), [], [], Same.refl _, O475.new hp486, RL.nil, Nat.zero_le _, hL481⟩ (fun i_ H_ _ hp_ => ?_) ?_ ?_
              · obtain ⟨_, _, _, _, hS_, hO_, _⟩ := hp_
                exact SqTF hO_.s (hS_ _ _ h477)
              · rintro i487 x488 H489 hi490 ⟨F495, st496, acc492, wa493, S497, O499, hl498, la494, hL481⟩
                have f_script := S497.seq f_script
                have h7 := h7.mono S497
                have h15 := h15.mono S497
                have h20 := S497 _ _ h20
                have hl21 := hl21.mono S497
                have h25 := S497 _ _ h25
                have hl26 := hl26.mono S497
                have h34 := h34.mono S497
                have h39 := S497 _ _ h39
                have hl40 := hl40.mono S497
                have S51 := S51.trans S497
                have h89 := h89.mono S497
                have h103 := S497 _ _ h103
                have hl104 := hl104.mono S497
                have h116 := h116.mono S497
                have h130 := S497 _ _ h130
                have hl131 := hl131.mono S497
                have r146 := r146.mono S497
                have r157 := r157.mono S497
                have hl166 := hl166.mono S497
                have r174 := r174.mono S497
                have h194 := h194.mono S497
                have r201 := r201.mono S497
                have h221 := h221.mono S497
                have h225 := S497 _ _ h225
                have hl226 := hl226.mono S497
                have h267 := h267.mono S497
                have r275 := r275.mono S497
                have h280 := S497 _ _ h280
                have hl281 := hl281.mono S497
                have h381 := h381.mono S497
                have h401 := h401.mono S497
                have h420 := h420.mono S497
                have h440 := h440.mono S497
                have h459 := h459.mono S497
                have h463 := S497 _ _ h463
                have r468 := r468.mono S497
                have r469 := r469.mono S497
                have r470 := r470.mono S497
                have r471 := r471.mono S497
                have h477 := S497 _ _ h477
                have hl478 := hl478.mono S497
                obtain ⟨y479, e500, r501⟩ := RL.got hl478 hi490
                rw [drop_at e500] at hL481
                have hk := hLs482 _ _ _ _ hL481
                refine ⟨rfl, ?_⟩
                obtain ⟨p502, w503, e504, h505, hl506⟩ := R.lst_ r501
                cases e504
                obtain ⟨c512, L508, hL509, hLs510, hLd511⟩ := compS_L hk
                refine ⟨_, rfl, _, rfl, ⟨_, (SqLF O499.s h505)⟩, fun p513 hp514 => ?_⟩
                have z538 := O499.was hp514
                refine lc_list (K := K) (xs := w503) (fun i H => ∃ (F_ : Hp) (st : Unit) (acc : List Sm) (wa : List V), Same F495 F_ ∧ Ow _ F_ [(p513, .lst wa), (p485, .lst wa493), (p74, .lst w164)] H ∧ RL F_ wa acc ∧ wa.length ≤ i ∧ L508 (List.drop i y479) acc st) ⟨F495, (), [], [], Same.refl _, O499.new hp514, RL.nil, Nat.zero_le _, hL509⟩ (fun i_ H_ _ hp_ => ?_) ?_ ?_
                · obtain ⟨_, _, _, _, hS_, hO_, _⟩ := hp_
                  exact SqLF hO_.s (hS_ _ _ h505)
                · rintro i515 x516 H517 hi518 ⟨F523, st524, acc520, wa521, S525, O527, hl526, la522, hL509⟩
                  have f_script := S525.seq f_script
                  have h7 := h7.mono S525
                  have h15 := h15.mono S525
                  have h20 := S525 _ _ h20
                  have hl21 := hl21.mono S525
                  have h25 := S525 _ _ h25
                  have hl26 := hl26.mono S525
                  have h34 := h34.mono S525
                  have h39 := S525 _ _ h39
                  have hl40 := hl40.mono S525
                  have S51 := S51.trans S525
                  have h89 := h89.mono S525
                  have h103 := S525 _ _ h103
                  have hl104 := hl104.mono S525
                  have h116 := h116.mono S525
                  have h130 := S525 _ _ h130
                  have hl131 := hl131.mono S525
                  have r146 := r146.mono S525
                  have r157 := r157.mono S525
                  have hl166 := hl166.mono S525
                  have r174 := r174.mono S525
                  have h194 := h194.mono S525
                  have r201 := r201.mono S525
                  have h221 := h221.mono S525
                  have h225 := S525 _ _ h225
                  have hl226 := hl226.mono S525
                  have h267 := h267.mono S525
                  have r275 := r275.mono S525
                  have h280 := S525 _ _ h280
                  have hl281 := hl281.mono S525
                  have h381 := h381.mono S525
                  have h401 := h401.mono S525
                  have h420 := h420.mono S525
                  have h440 := h440.mono S525
                  have h459 := h459.mono S525
                  have h463 := S525 _ _ h463
                  have r468 := r468.mono S525
                  have r469 := r469.mono S525
                  have r470 := r470.mono S525
                  have r471 := r471.mono S525
                  have h477 := S525 _ _ h477
                  have hl478 := hl478.mono S525
                  have S497 := S497.trans S525
                  have hl498 := hl498.mono S525
                  have r501 := r501.mono S525
                  have h505 := S525 _ _ h505
                  have hl506 := hl506.mono S525
                  obtain ⟨y507, e528, r529⟩ := RL.got hl506 hi518
                  rw [drop_at e528] at hL509
                  have hk := hLs510 _ _ _ _ hL509
                  refine ⟨rfl, ?_⟩
                  refine ⟨_, rfl, _, _, _, rfl, O527.pre0, r529, wp_call hk (fun r530 er531 hk F532 H533 g534 v535 r536 => ?_) (fun n hn => hn.elim)⟩
                  have O537 := O527.call0 g534
                  have S_ := g534.f
                  have f_script := S_.seq f_script
                  have h7 := h7.mono S_
                  have h15 := h15.mono S_
                  have h20 := S_ _ _ h20
                  have hl21 := hl21.mono S_
                  have h25 := S_ _ _ h25
                  have hl26 := hl26.mono S_
                  have h34 := h34.mono S_
                  have h39 := S_ _ _ h39
                  have hl40 := hl40.mono S_
                  have S51 := S51.trans S_
                  have h89 := h89.mono S_
                  have h103 := S_ _ _ h103
                  have hl104 := hl104.mono S_
                  have h116 := h116.mono S_
                  have h130 := S_ _ _ h130
                  have hl131 := hl131.mono S_
                  have r146 := r146.mono S_
                  have r157 := r157.mono S_
                  have hl166 := hl166.mono S_
                  have r174 := r174.mono S_
                  have h194 := h194.mono S_
                  have r201 := r201.mono S_
                  have h221 := h221.mono S_
                  have h225 := S_ _ _ h225
                  have hl226 := hl226.mono S_
                  have h267 := h267.mono S_
                  have r275 := r275.mono S_
                  have h280 := S_ _ _ h280
                  have hl281 := hl281.mono S_
                  have h381 := h381.mono S_
                  have h401 := h401.mono S_
                  have h420 := h420.mono S_
                  have h440 := h440.mono S_
                  have h459 := h459.mono S_
                  have h463 := S_ _ _ h463
                  have r468 := r468.mono S_
                  have r469 := r469.mono S_
                  have r470 := r470.mono S_
                  have r471 := r471.mono S_
                  have h477 := S_ _ _ h477
                  have hl478 := hl478.mono S_
                  have S497 := S497.trans S_
                  have hl498 := hl498.mono S_
                  have r501 := r501.mono S_
                  have h505 := S_ _ _ h505
                  have hl506 := hl506.mono S_
                  have S525 := S525.trans S_
                  have hl526 := hl526.mono S_
                  have r529 := r529.mono S_
                  refine ⟨_, (O537.at 0 rfl), (comp_len la522 hi518 hl506.len c512), ?_⟩
                  exact ⟨F532, (), acc520 ++ [r530], wa521 ++ [v535], S525, O537.set 0 (.lst (wa521 ++ [v535])) rfl, RL.snoc hl526 r536, by rw [List.length_append]; exact Nat.succ_le_succ la522, hk⟩
                rintro H539 ⟨F540, st541, acc542, wa543, S544, O545, hl546, la547, hL548⟩
                rw [drop_end hl506.len] at hL548
                have hk := hLd511 _ _ hL548
                have f_script := S544.seq f_script
                have h7 := h7.mono S544
                have h15 := h15.mono S544
                have h20 := S544 _ _ h20
                have hl21 := hl21.mono S544
                have h25 := S544 _ _ h25
                have hl26 := hl26.mono S544
                have h34 := h34.mono S544
                have h39 := S544 _ _ h39
                have hl40 := hl40.mono S544
                have S51 := S51.trans S544
                have h89 := h89.mono S544
                have h103 := S544 _ _ h103
                have hl104 := hl104.mono S544
                have h116 := h116.mono S544
                have h130 := S544 _ _ h130
                have hl131 := hl131.mono S544
                have r146 := r146.mono S544
                have r157 := r157.mono S544
                have hl166 := hl166.mono S544
                have r174 := r174.mono S544
                have h194 := h194.mono S544
                have r201 := r201.mono S544
                have h221 := h221.mono S544
                have h225 := S544 _ _ h225
                have hl226 := hl226.mono S544
                have h267 := h267.mono S544
                have r275 := r275.mono S544
                have h280 := S544 _ _ h280
                have hl281 := hl281.mono S544
                have h381 := h381.mono S544
                have h401 := h401.mono S544
                have h420 := h420.mono S544
                have h440 := h440.mono S544
                have h459 := h459.mono S544
                have h463 := S544 _ _ h463
                have r468 := r468.mono S544
                have r469 := r469.mono S544
                have r470 := r470.mono S544
                have r471 := r471.mono S544
                have h477 := S544 _ _ h477
                have hl478 := hl478.mono S544
                have S497 := S497.trans S544
                have hl498 := hl498.mono S544
                have r501 := r501.mono S544
                have h505 := S544 _ _ h505
                have hl506 := hl506.mono S544
                obtain ⟨F550, O551, S552, h553⟩ := O545.frzE 0 rfl z538
                have f_script := S552.seq f_script
                have h7 := h7.mono S552
                have h15 := h15.mono S552
                have h20 := S552 _ _ h20
                have hl21 := hl21.mono S552
                have h25 := S552 _ _ h25
                have hl26 := hl26.mono S552
                have h34 := h34.mono S552
                have h39 := S552 _ _ h39
                have hl40 := hl40.mono S552
                have S51 := S51.trans S552
                have h89 := h89.mono S552
                have h103 := S552 _ _ h103
                have hl104 := hl104.mono S552
                have h116 := h116.mono S552
                have h130 := S552 _ _ h130
                have hl131 := hl131.mono S552
                have r146 := r146.mono S552
                have r157 := r157.mono S552
                have hl166 := hl166.mono S552
                have r174 := r174.mono S552
                have h194 := h194.mono S552
                have r201 := r201.mono S552
                have h221 := h221.mono S552
                have h225 := S552 _ _ h225
                have hl226 := hl226.mono S552
                have h267 := h267.mono S552
                have r275 := r275.mono S552
                have h280 := S552 _ _ h280
                have hl281 := hl281.mono S552
                have h381 := h381.mono S552
                have h401 := h401.mono S552
                have h420 := h420.mono S552
                have h440 := h440.mono S552
                have h459 := h459.mono S552
                have h463 := S552 _ _ h463
                have r468 := r468.mono S552
                have r469 := r469.mono S552
                have r470 := r470.mono S552
                have r471 := r471.mono S552
                have h477 := S552 _ _ h477
                have hl478 := hl478.mono S552
                have S497 := S497.trans S552
                have hl498 := hl498.mono S552
                have r501 := r501.mono S552
                have h505 := S552 _ _ h505
                have hl506 := hl506.mono S552
                have hl546 := hl546.mono S552
                have h554 := R.lst (a := Sm) h553 hl546
                refine ⟨_, (O551.at 0 rfl), (comp_len la494 hi490 hl478.len c484), ?_⟩
                exact ⟨F550, (), acc492 ++ [acc542], wa493 ++ [V.ref p513], S497, O551.set 0 (.lst (wa493 ++ [V.ref p513])) rfl, RL.snoc hl498 h554, by rw [List.length_append]; exact Nat.succ_le_succ la494, hk⟩
              rintro H556 ⟨F557, st558, acc559, wa560, S561, O562, hl563, la564, hL565⟩
              rw [drop_end hl478.len] at hL565
              have hk := hLd483 _ _ hL565
              have f_script := S561.seq f_script
              have h7 := h7.mono S561
              have h15 := h15.mono S561
              have h20 := S561 _ _ h20
              have hl21 := hl21.mono S561
              have h25 := S561 _ _ h25
              have hl26 := hl26.mono S561
              have h34 := h34.mono S561
              have h39 := S561 _ _ h39
              have hl40 := hl40.mono S561
              have S51 := S51.trans S561
              have h89 := h89.mono S561
              have h103 := S561 _ _ h103
              have hl104 := hl104.mono S561
              have h116 := h116.mono S561
              have h130 := S561 _ _ h130
              have hl131 := hl131.mono S561
              have r146 := r146.mono S561
              have r157 := r157.mono S561
              have hl166 := hl166.mono S561
              have r174 := r174.mono S561
              have h194 := h194.mono S561
              have r201 := r201.mono S561
              have h221 := h221.mono S561
              have h225 := S561 _ _ h225
              have hl226 := hl226.mono S561
              have h267 := h267.mono S561
              have r275 := r275.mono S561
              have h280 := S561 _ _ h280
              have hl281 := hl281.mono S561
              have h381 := h381.mono S561
              have h401 := h401.mono S561
              have h420 := h420.mono S561
              have h440 := h440.mono S561
              have h459 := h459.mono S561
              have h463 := S561 _ _ h463
              have r468 := r468.mono S561
              have r469 := r469.mono S561
              have r470 := r470.mono S561
              have r471 := r471.mono S561
              have h477 := S561 _ _ h477
              have hl478 := hl478.mono S561
              obtain ⟨F567, O568, S569, h570⟩ := O562.frzE 0 rfl z555
              have f_script := S569.seq f_script
              have h7 := h7.mono S569
              have h15 := h15.mono S569
              have h20 := S569 _ _ h20
              have hl21 := hl21.mono S569
              have h25 := S569 _ _ h25
              have hl26 := hl26.mono S569
              have h34 := h34.mono S569
              have h39 := S569 _ _ h39
              have hl40 := hl40.mono S569
              have S51 := S51.trans S569
              have h89 := h89.mono S569
              have h103 := S569 _ _ h103
              have hl104 := hl104.mono S569
              have h116 := h116.mono S569
              have h130 := S569 _ _ h130
              have hl131 := hl131.mono S569
              have r146 := r146.mono S569
              have r157 := r157.mono S569
              have hl166 := hl166.mono S569
              have r174 := r174.mono S569
              have h194 := h194.mono S569
              have r201 := r201.mono S569
              have h221 := h221.mono S569
              have h225 := S569 _ _ h225
              have hl226 := hl226.mono S569
              have h267 := h267.mono S569
              have r275 := r275.mono S569
              have h280 := S569 _ _ h280
              have hl281 := hl281.mono S569
              have h381 := h381.mono S569
              have h401 := h401.mono S569
              have h420 := h420.mono S569
              have h440 := h440.mono S569
              have h459 := h459.mono S569
              have h463 := S569 _ _ h463
              have r468 := r468.mono S569
              have r469 := r469.mono S569
              have r470 := r470.mono S569
              have r471 := r471.mono S569
              have h477 := S569 _ _ h477
              have hl478 := hl478.mono S569
              have hl563 := hl563.mono S569
              have h571 := R.lst (a := (List Sm)) h570 hl563
              obtain ⟨p572, w573, e574, h575, hl576⟩ := R.lst_ h571
              cases e574
              obtain ⟨y577, e578, hk⟩ := wp_opt hk
              obtain ⟨w579, e580, r581⟩ := hl576.atI e578
              obtain ⟨p582, w583, e584, h585, hl586⟩ := R.lst_ h571
              cases e584
              obtain ⟨y587, e588, hk⟩ := wp_opt hk
              obtain ⟨w589, e590, r591⟩ := hl586.atI e588
              obtain ⟨p592, w593, e594, h595, hl596⟩ := R.lst_ h571
              cases e594
              obtain ⟨y597, e598, hk⟩ := wp_opt hk
              obtain ⟨w599, e600, r601⟩ := hl596.atI e598
              refine ⟨_, rfl, _, _, _, _, rfl, rfl, (SqLF O568.s h575), e580, _, rfl, _, _, _, _, rfl, rfl, (SqLF O568.s h585), e590, _, rfl, _, _, _, _, rfl, rfl, (SqLF O568.s h595), e600, _, rfl, _, _, _, _, rfl, rfl, (SqTF O568.s h463), rfl, _, _, _, rfl, O568.pre0, r471, wp_call hk (fun r602 er603 hk F604 H605 g606 v607 r608 => ?_) (fun n hn C H1 hC kp => hn.elim)⟩
              have O609 := O568.call0 g606
              have S_ := g606.f
              have f_script := S_.seq f_script
              have h7 := h7.mono S_
              have h15 := h15.mono S_
              have h20 := S_ _ _ h20
              have hl21 := hl21.mono S_
              have h25 := S_ _ _ h25
              have hl26 := hl26.mono S_
              have h34 := h34.mono S_
              have h39 := S_ _ _ h39
              have hl40 := hl40.mono S_
              have S51 := S51.trans S_
              have h89 := h89.mono S_
              have h103 := S_ _ _ h103
              have hl104 := hl104.mono S_
              have h116 := h116.mono S_
              have h130 := S_ _ _ h130
              have hl131 := hl131.mono S_
              have r146 := r146.mono S_
              have r157 := r157.mono S_
              have hl166 := hl166.mono S_
              have r174 := r174.mono S_
              have h194 := h194.mono S_
              have r201 := r201.mono S_
              have h221 := h221.mono S_
              have h225 := S_ _ _ h225
              have hl226 := hl226.mono S_
              have h267 := h267.mono S_
              have r275 := r275.mono S_
              have h280 := S_ _ _ h280
              have hl281 := hl281.mono S_
              have h381 := h381.mono S_
              have h401 := h401.mono S_
              have h420 := h420.mono S_
              have h440 := h440.mono S_
              have h459 := h459.mono S_
              have h463 := S_ _ _ h463
              have r468 := r468.mono S_
              have r469 := r469.mono S_
              have r470 := r470.mono S_
              have r471 := r471.mono S_
              have h477 := S_ _ _ h477
              have hl478 := hl478.mono S_
              have h571 := h571.mono S_
              have h575 := S_ _ _ h575
              have hl576 := hl576.mono S_
              have r581 := r581.mono S_
              have h585 := S_ _ _ h585
              have hl586 := hl586.mono S_
              have r591 := r591.mono S_
              have h595 := S_ _ _ h595
              have hl596 := hl596.mono S_
              have r601 := r601.mono S_
              refine ⟨(by show 4 ≤ sizeLine; decide), fun p610 hp611 => ?_⟩
              obtain ⟨F612, O613, S614, h615⟩ := O609.putE hp611 (.tup [w579, w589, w599, v607])
              have f_script := S614.seq f_script
              have h7 := h7.mono S614
              have h15 := h15.mono S614
              have h20 := S614 _ _ h20
              have hl21 := hl21.mono S614
              have h25 := S614 _ _ h25
              have hl26 := hl26.mono S614
              have h34 := h34.mono S614
              have h39 := S614 _ _ h39
              have hl40 := hl40.mono S614
              have S51 := S51.trans S614
              have h89 := h89.mono S614
              have h103 := S614 _ _ h103
              have hl104 := hl104.mono S614
              have h116 := h116.mono S614
              have h130 := S614 _ _ h130
              have hl131 := hl131.mono S614
              have r146 := r146.mono S614
              have r157 := r157.mono S614
              have hl166 := hl166.mono S614
              have r174 := r174.mono S614
              have h194 := h194.mono S614
              have r201 := r201.mono S614
              have h221 := h221.mono S614
              have h225 := S614 _ _ h225
              have hl226 := hl226.mono S614
              have h267 := h267.mono S614
              have r275 := r275.mono S614
              have h280 := S614 _ _ h280
              have hl281 := hl281.mono S614
              have h381 := h381.mono S614
              have h401 := h401.mono S614
              have h420 := h420.mono S614
              have h440 := h440.mono S614
              have h459 := h459.mono S614
              have h463 := S614 _ _ h463
              have r468 := r468.mono S614
              have r469 := r469.mono S614
              have r470 := r470.mono S614
              have r471 := r471.mono S614
              have h477 := S614 _ _ h477
              have hl478 := hl478.mono S614
              have h571 := h571.mono S614
              have h575 := S614 _ _ h575
              have hl576 := hl576.mono S614
              have r581 := r581.mono S614
              have h585 := S614 _ _ h585
              have hl586 := hl586.mono S614
              have r591 := r591.mono S614
              have h595 := S614 _ _ h595
              have hl596 := hl596.mono S614
              have r601 := r601.mono S614
              have r608 := r608.mono S614
              have h616 : R (a := (T4 (List Sm) (List Sm) (List Sm) Sm)) F612 (.ref p610) (T4.mk y577 y587 y597 r602) := R.t4 h615 r581 r591 r601 r608
              refine ⟨_, rfl, _, rfl, _, _, _, _, rfl, O613.pre0, r146, wp_call hk (fun r617 er618 hk F619 H620 g621 v622 r623 => ?_) (fun n hn C H1 hC kp => hn.elim)⟩
              have O624 := O613.call0 g621
              have S_ := g621.f
              have f_script := S_.seq f_script
              have h7 := h7.mono S_
              have h15 := h15.mono S_
              have h20 := S_ _ _ h20
              have hl21 := hl21.mono S_
              have h25 := S_ _ _ h25
              have hl26 := hl26.mono S_
              have h34 := h34.mono S_
              have h39 := S_ _ _ h39
              have hl40 := hl40.mono S_
              have S51 := S51.trans S_
              have h89 := h89.mono S_
              have h103 := S_ _ _ h103
              have hl104 := hl104.mono S_
              have h116 := h116.mono S_
              have h130 := S_ _ _ h130
              have hl131 := hl131.mono S_
              have r146 := r146.mono S_
              have r157 := r157.mono S_
              have hl166 := hl166.mono S_
              have r174 := r174.mono S_
              have h194 := h194.mono S_
              have r201 := r201.mono S_
              have h221 := h221.mono S_
              have h225 := S_ _ _ h225
              have hl226 := hl226.mono S_
              have h267 := h267.mono S_
              have r275 := r275.mono S_
              have h280 := S_ _ _ h280
              have hl281 := hl281.mono S_
              have h381 := h381.mono S_
              have h401 := h401.mono S_
              have h420 := h420.mono S_
              have h440 := h440.mono S_
              have h459 := h459.mono S_
              have h463 := S_ _ _ h463
              have r468 := r468.mono S_
              have r469 := r469.mono S_
              have r470 := r470.mono S_
              have r471 := r471.mono S_
              have h477 := S_ _ _ h477
              have hl478 := hl478.mono S_
              have h571 := h571.mono S_
              have h575 := S_ _ _ h575
              have hl576 := hl576.mono S_
              have r581 := r581.mono S_
              have h585 := S_ _ _ h585
              have hl586 := hl586.mono S_
              have r591 := r591.mono S_
              have h595 := S_ _ _ h595
              have hl596 := hl596.mono S_
              have r601 := r601.mono S_
              have r608 := r608.mono S_
              have h616 := h616.mono S_
              refine ⟨_, rfl, _, rfl, _, _, _, _, _, rfl, O624.pre0, r623, h616, wp_call hk (fun r625 er626 hk F627 H628 g629 p630 w631 hn632 hf633 h634 hl635 => ?_) (fun n hn C H1 hC kp => hn.elim)⟩
              have O636 := O624.call0 g629
              have S_ := g629.f
              have f_script := S_.seq f_script
              have h7 := h7.mono S_
              have h15 := h15.mono S_
              have h20 := S_ _ _ h20
              have hl21 := hl21.mono S_
              have h25 := S_ _ _ h25
              have hl26 := hl26.mono S_
              have h34 := h34.mono S_
              have h39 := S_ _ _ h39
              have hl40 := hl40.mono S_
              have S51 := S51.trans S_
              have h89 := h89.mono S_
              have h103 := S_ _ _ h103
              have hl104 := hl104.mono S_
              have h116 := h116.mono S_
              have h130 := S_ _ _ h130
              have hl131 := hl131.mono S_
              have r146 := r146.mono S_
              have r157 := r157.mono S_
              have hl166 := hl166.mono S_
              have r174 := r174.mono S_
              have h194 := h194.mono S_
              have r201 := r201.mono S_
              have h221 := h221.mono S_
              have h225 := S_ _ _ h225
              have hl226 := hl226.mono S_
              have h267 := h267.mono S_
              have r275 := r275.mono S_
              have h280 := S_ _ _ h280
              have hl281 := hl281.mono S_
              have h381 := h381.mono S_
              have h401 := h401.mono S_
              have h420 := h420.mono S_
              have h440 := h440.mono S_
              have h459 := h459.mono S_
              have h463 := S_ _ _ h463
              have r468 := r468.mono S_
              have r469 := r469.mono S_
              have r470 := r470.mono S_
              have r471 := r471.mono S_
              have h477 := S_ _ _ h477
              have hl478 := hl478.mono S_
              have h571 := h571.mono S_
              have h575 := S_ _ _ h575
              have hl576 := hl576.mono S_
              have r581 := r581.mono S_
              have h585 := S_ _ _ h585
              have hl586 := hl586.mono S_
              have r591 := r591.mono S_
              have h595 := S_ _ _ h595
              have hl596 := hl596.mono S_
              have r601 := r601.mono S_
              have r608 := r608.mono S_
              have h616 := h616.mono S_
              have r623 := r623.mono S_
              have O637 := O624.got O636 rfl hn632 hf633 h634
              have z638 := O624.was hn632
              obtain ⟨F639, O640, S641, h642⟩ := O637.frzE 0 rfl z638
              have f_script := S641.seq f_script
              have h7 := h7.mono S641
              have h15 := h15.mono S641
              have h20 := S641 _ _ h20
              have hl21 := hl21.mono S641
              have h25 := S641 _ _ h25
              have hl26 := hl26.mono S641
              have h34 := h34.mono S641
              have h39 := S641 _ _ h39
              have hl40 := hl40.mono S641
              have S51 := S51.trans S641
              have h89 := h89.mono S641
              have h103 := S641 _ _ h103
              have hl104 := hl104.mono S641
              have h116 := h116.mono S641
              have h130 := S641 _ _ h130
              have hl131 := hl131.mono S641
              have r146 := r146.mono S641
              have r157 := r157.mono S641
              have hl166 := hl166.mono S641
              have r174 := r174.mono S641
              have h194 := h194.mono S641
              have r201 := r201.mono S641
              have h221 := h221.mono S641
              have h225 := S641 _ _ h225
              have hl226 := hl226.mono S641
              have h267 := h267.mono S641
              have r275 := r275.mono S641
              have h280 := S641 _ _ h280
              have hl281 := hl281.mono S641
              have h381 := h381.mono S641
              have h401 := h401.mono S641
              have h420 := h420.mono S641
              have h440 := h440.mono S641
              have h459 := h459.mono S641
              have h463 := S641 _ _ h463
              have r468 := r468.mono S641
              have r469 := r469.mono S641
              have r470 := r470.mono S641
              have r471 := r471.mono S641
              have h477 := S641 _ _ h477
              have hl478 := hl478.mono S641
              have h571 := h571.mono S641
              have h575 := S641 _ _ h575
              have hl576 := hl576.mono S641
              have r581 := r581.mono S641
              have h585 := S641 _ _ h585
              have hl586 := hl586.mono S641
              have r591 := r591.mono S641
              have h595 := S641 _ _ h595
              have hl596 := hl596.mono S641
              have r601 := r601.mono S641
              have r608 := r608.mono S641
              have h616 := h616.mono S641
              have r623 := r623.mono S641
              have hl635 := hl635.mono S641
              have h643 := R.lst (a := Int) h642 hl635
              obtain ⟨p644, w645, e646, h647, hl648⟩ := R.lst_ h194
              cases e646
              obtain ⟨c654, L650, hL651, hLs652, hLd653⟩ := compS_L hk
              refine ⟨_, rfl, _, rfl, ⟨_, (SqLF O640.s h647)⟩, fun p655 hp656 => ?_⟩
              have z672 := O640.was hp656
              refine lc_list (K := K) (xs := w645) (fun i H => ∃ (F_ : Hp) (st : Unit) (acc : List Int) (wa : List V), Same F639 F_ ∧ Ow _ F_ [(p655, .lst wa), (p74, .lst w164)] H ∧ RL F_ wa acc ∧ wa.length ≤ i ∧ L650 (List.drop i r176) acc st) ⟨F639, (), [], [], Same.refl _, O640.new hp656, RL.nil, Nat.zero_le _, hL651⟩ (fun i_ H_ _ hp_ => ?_) ?_ ?_
              · obtain ⟨_, _, _, _, hS_, hO_, _⟩ := hp_
                exact SqLF hO_.s (hS_ _ _ h647)
              · rintro i657 x658 H659 hi660 ⟨F665, st666, acc662, wa663, S667, O669, hl668, la664, hL651⟩
                have f_script := S667.seq f_script
                have h7 := h7.mono S667
                have h15 := h15.mono S667
                have h20 := S667 _ _ h20
                have hl21 := hl21.mono S667
                have h25 := S667 _ _ h25
                have hl26 := hl26.mono S667
                have h34 := h34.mono S667
                have h39 := S667 _ _ h39
                have hl40 := hl40.mono S667
                have S51 := S51.trans S667
                have h89 := h89.mono S667
                have h103 := S667 _ _ h103
                have hl104 := hl104.mono S667
                have h116 := h116.mono S667
                have h130 := S667 _ _ h130
                have hl131 := hl131.mono S667
                have r146 := r146.mono S667
                have r157 := r157.mono S667
                have hl166 := hl166.mono S667
                have r174 := r174.mono S667
                have h194 := h194.mono S667
                have r201 := r201.mono S667
                have h221 := h221.mono S667
                have h225 := S667 _ _ h225
                have hl226 := hl226.mono S667
                have h267 := h267.mono S667
                have r275 := r275.mono S667
                have h280 := S667 _ _ h280
                have hl281 := hl281.mono S667
                have h381 := h381.mono S667
                have h401 := h401.mono S667
                have h420 := h420.mono S667
                have h440 := h440.mono S667
                have h459 := h459.mono S667
                have h463 := S667 _ _ h463
                have r468 := r468.mono S667
                have r469 := r469.mono S667
                have r470 := r470.mono S667
                have r471 := r471.mono S667
                have h477 := S667 _ _ h477
                have hl478 := hl478.mono S667
                have h571 := h571.mono S667
                have h575 := S667 _ _ h575
                have hl576 := hl576.mono S667
                have r581 := r581.mono S667
                have h585 := S667 _ _ h585
                have hl586 := hl586.mono S667
                have r591 := r591.mono S667
                have h595 := S667 _ _ h595
                have hl596 := hl596.mono S667
                have r601 := r601.mono S667
                have r608 := r608.mono S667
                have h616 := h616.mono S667
                have r623 := r623.mono S667
                have h643 := h643.mono S667
                have h647 := S667 _ _ h647
                have hl648 := hl648.mono S667
                obtain ⟨y649, e670, r671⟩ := RL.got hl648 hi660
                rw [drop_at e670] at hL651
                have hk := hLs652 _ _ _ _ hL651
                obtain rfl := R.int_ r671
                refine ⟨rfl, ?_⟩
                refine ⟨_, rfl, _, _, rfl, rfl, _, (O669.at 0 rfl), (comp_len la664 hi660 hl648.len c654), ?_⟩
                exact ⟨F665, (), acc662 ++ [((0 : Int) - y649)], wa663 ++ [V.int ((0 : Int) - y649)], S667, O669.set 0 (.lst (wa663 ++ [V.int ((0 : Int) - y649)])) rfl, RL.snoc hl668 R.int, by rw [List.length_append]; exact Nat.succ_le_succ la664, hk⟩
              rintro H673 ⟨F674, st675, acc676, wa677, S678, O679, hl680, la681, hL682⟩
              rw [drop_end hl648.len] at hL682
              have hk := hLd653 _ _ hL682
              have f_script := S678.seq f_script
              have h7 := h7.mono S678
              have h15 := h15.mono S678
              have h20 := S678 _ _ h20
              have hl21 := hl21.mono S678
              have h25 := S678 _ _ h25
              have hl26 := hl26.mono S678
              have h34 := h34.mono S678
              have h39 := S678 _ _ h39
              have hl40 := hl40.mono S678
              have S51 := S51.trans S678
              have h89 := h89.mono S678
              have h103 := S678 _ _ h103
              have hl104 := hl104.mono S678
              have h116 := h116.mono S678
              have h130 := S678 _ _ h130
              have hl131 := hl131.mono S678
              have r146 := r146.mono S678
              have r157 := r157.mono S678
              have hl166 := hl166.mono S678
              have r174 := r174.mono S678
              have h194 := h194.mono S678
              have r201 := r201.mono S678
              have h221 := h221.mono S678
              have h225 := S678 _ _ h225
              have hl226 := hl226.mono S678
              have h267 := h267.mono S678
              have r275 := r275.mono S678
              have h280 := S678 _ _ h280
              have hl281 := hl281.mono S678
              have h381 := h381.mono S678
              have h401 := h401.mono S678
              have h420 := h420.mono S678
              have h440 := h440.mono S678
              have h459 := h459.mono S678
              have h463 := S678 _ _ h463
              have r468 := r468.mono S678
              have r469 := r469.mono S678
              have r470 := r470.mono S678
              have r471 := r471.mono S678
              have h477 := S678 _ _ h477
              have hl478 := hl478.mono S678
              have h571 := h571.mono S678
              have h575 := S678 _ _ h575
              have hl576 := hl576.mono S678
              have r581 := r581.mono S678
              have h585 := S678 _ _ h585
              have hl586 := hl586.mono S678
              have r591 := r591.mono S678
              have h595 := S678 _ _ h595
              have hl596 := hl596.mono S678
              have r601 := r601.mono S678
              have r608 := r608.mono S678
              have h616 := h616.mono S678
              have r623 := r623.mono S678
              have h643 := h643.mono S678
              have h647 := S678 _ _ h647
              have hl648 := hl648.mono S678
              obtain ⟨F684, O685, S686, h687⟩ := O679.frzE 0 rfl z672
              have f_script := S686.seq f_script
              have h7 := h7.mono S686
              have h15 := h15.mono S686
              have h20 := S686 _ _ h20
              have hl21 := hl21.mono S686
              have h25 := S686 _ _ h25
              have hl26 := hl26.mono S686
              have h34 := h34.mono S686
              have h39 := S686 _ _ h39
              have hl40 := hl40.mono S686
              have S51 := S51.trans S686
              have h89 := h89.mono S686
              have h103 := S686 _ _ h103
              have hl104 := hl104.mono S686
              have h116 := h116.mono S686
              have h130 := S686 _ _ h130
              have hl131 := hl131.mono S686
              have r146 := r146.mono S686
              have r157 := r157.mono S686
              have hl166 := hl166.mono S686
              have r174 := r174.mono S686
              have h194 := h194.mono S686
              have r201 := r201.mono S686
              have h221 := h221.mono S686
              have h225 := S686 _ _ h225
              have hl226 := hl226.mono S686
              have h267 := h267.mono S686
              have r275 := r275.mono S686
              have h280 := S686 _ _ h280
              have hl281 := hl281.mono S686
              have h381 := h381.mono S686
              have h401 := h401.mono S686
              have h420 := h420.mono S686
              have h440 := h440.mono S686
              have h459 := h459.mono S686
              have h463 := S686 _ _ h463
              have r468 := r468.mono S686
              have r469 := r469.mono S686
              have r470 := r470.mono S686
              have r471 := r471.mono S686
              have h477 := S686 _ _ h477
              have hl478 := hl478.mono S686
              have h571 := h571.mono S686
              have h575 := S686 _ _ h575
              have hl576 := hl576.mono S686
              have r581 := r581.mono S686
              have h585 := S686 _ _ h585
              have hl586 := hl586.mono S686
              have r591 := r591.mono S686
              have h595 := S686 _ _ h595
              have hl596 := hl596.mono S686
              have r601 := r601.mono S686
              have r608 := r608.mono S686
              have h616 := h616.mono S686
              have r623 := r623.mono S686
              have h643 := h643.mono S686
              have h647 := S686 _ _ h647
              have hl648 := hl648.mono S686
              have hl680 := hl680.mono S686
              have h688 := R.lst (a := Int) h687 hl680
              refine ⟨_, _, (R.mono h643 O685.s), (R.mono h688 O685.s), _, rfl, ?_⟩
              refine iteD (fun q689 => ?_) (fun q689 => ?_)
              · have hk := wp_if hk q689
                exact hk _ _  O685.g 
              · have hk := wp_el hk q689
                refine ⟨_, rfl, _, rfl, _, _, _, _, _, rfl, O685.pre0, r623, h616, wp_call hk (fun r690 er691 hk F692 H693 g694 p695 w696 hn697 hf698 h699 hl700 => ?_) (fun n hn C H1 hC kp => hn.elim)⟩
                have O701 := O685.call0 g694
                have S_ := g694.f
                have f_script := S_.seq f_script
                have h7 := h7.mono S_
                have h15 := h15.mono S_
                have h20 := S_ _ _ h20
                have hl21 := hl21.mono S_
                have h25 := S_ _ _ h25
                have hl26 := hl26.mono S_
                have h34 := h34.mono S_
                have h39 := S_ _ _ h39
                have hl40 := hl40.mono S_
                have S51 := S51.trans S_
                have h89 := h89.mono S_
                have h103 := S_ _ _ h103
                have hl104 := hl104.mono S_
                have h116 := h116.mono S_
                have h130 := S_ _ _ h130
                have hl131 := hl131.mono S_
                have r146 := r146.mono S_
                have r157 := r157.mono S_
                have hl166 := hl166.mono S_
                have r174 := r174.mono S_
                have h194 := h194.mono S_
                have r201 := r201.mono S_
                have h221 := h221.mono S_
                have h225 := S_ _ _ h225
                have hl226 := hl226.mono S_
                have h267 := h267.mono S_
                have r275 := r275.mono S_
                have h280 := S_ _ _ h280
                have hl281 := hl281.mono S_
                have h381 := h381.mono S_
                have h401 := h401.mono S_
                have h420 := h420.mono S_
                have h440 := h440.mono S_
                have h459 := h459.mono S_
                have h463 := S_ _ _ h463
                have r468 := r468.mono S_
                have r469 := r469.mono S_
                have r470 := r470.mono S_
                have r471 := r471.mono S_
                have h477 := S_ _ _ h477
                have hl478 := hl478.mono S_
                have h571 := h571.mono S_
                have h575 := S_ _ _ h575
                have hl576 := hl576.mono S_
                have r581 := r581.mono S_
                have h585 := S_ _ _ h585
                have hl586 := hl586.mono S_
                have r591 := r591.mono S_
                have h595 := S_ _ _ h595
                have hl596 := hl596.mono S_
                have r601 := r601.mono S_
                have r608 := r608.mono S_
                have h616 := h616.mono S_
                have r623 := r623.mono S_
                have h643 := h643.mono S_
                have h647 := S_ _ _ h647
                have hl648 := hl648.mono S_
                have h688 := h688.mono S_
                have O702 := O685.got O701 rfl hn697 hf698 h699
                have z703 := O685.was hn697
                obtain ⟨F704, O705, S706, h707⟩ := O702.frzE 0 rfl z703
                have f_script := S706.seq f_script
                have h7 := h7.mono S706
                have h15 := h15.mono S706
                have h20 := S706 _ _ h20
                have hl21 := hl21.mono S706
                have h25 := S706 _ _ h25
                have hl26 := hl26.mono S706
                have h34 := h34.mono S706
                have h39 := S706 _ _ h39
                have hl40 := hl40.mono S706
                have S51 := S51.trans S706
                have h89 := h89.mono S706
                have h103 := S706 _ _ h103
                have hl104 := hl104.mono S706
                have h116 := h116.mono S706
                have h130 := S706 _ _ h130
                have hl131 := hl131.mono S706
                have r146 := r146.mono S706
                have r157 := r157.mono S706
                have hl166 := hl166.mono S706
                have r174 := r174.mono S706
                have h194 := h194.mono S706
                have r201 := r201.mono S706
                have h221 := h221.mono S706
                have h225 := S706 _ _ h225
                have hl226 := hl226.mono S706
                have h267 := h267.mono S706
                have r275 := r275.mono S706
                have h280 := S706 _ _ h280
                have hl281 := hl281.mono S706
                have h381 := h381.mono S706
                have h401 := h401.mono S706
                have h420 := h420.mono S706
                have h440 := h440.mono S706
                have h459 := h459.mono S706
                have h463 := S706 _ _ h463
                have r468 := r468.mono S706
                have r469 := r469.mono S706
                have r470 := r470.mono S706
                have r471 := r471.mono S706
                have h477 := S706 _ _ h477
                have hl478 := hl478.mono S706
                have h571 := h571.mono S706
                have h575 := S706 _ _ h575
                have hl576 := hl576.mono S706
                have r581 := r581.mono S706
                have h585 := S706 _ _ h585
                have hl586 := hl586.mono S706
                have r591 := r591.mono S706
                have h595 := S706 _ _ h595
                have hl596 := hl596.mono S706
                have r601 := r601.mono S706
                have r608 := r608.mono S706
                have h616 := h616.mono S706
                have r623 := r623.mono S706
                have h643 := h643.mono S706
                have h647 := S706 _ _ h647
                have hl648 := hl648.mono S706
                have h688 := h688.mono S706
                have hl700 := hl700.mono S706
                have h708 := R.lst (a := Int) h707 hl700
                refine ⟨_, rfl, _, rfl, _, _, _, _, _, rfl, O705.pre0, r146, r157, wp_call hk (fun r709 er710 hk F711 H712 g713 p714 w715 hn716 hf717 h718 hl719 => ?_) (fun n hn C H1 hC kp => hn.elim)⟩
                have O720 := O705.call0 g713
                have S_ := g713.f
                have f_script := S_.seq f_script
                have h7 := h7.mono S_
                have h15 := h15.mono S_
                have h20 := S_ _ _ h20
                have hl21 := hl21.mono S_
                have h25 := S_ _ _ h25
                have hl26 := hl26.mono S_
                have h34 := h34.mono S_
                have h39 := S_ _ _ h39
                have hl40 := hl40.mono S_
                have S51 := S51.trans S_
                have h89 := h89.mono S_
                have h103 := S_ _ _ h103
                have hl104 := hl104.mono S_
                have h116 := h116.mono S_
                have h130 := S_ _ _ h130
                have hl131 := hl131.mono S_
                have r146 := r146.mono S_
                have r157 := r157.mono S_
                have hl166 := hl166.mono S_
                have r174 := r174.mono S_
                have h194 := h194.mono S_
                have r201 := r201.mono S_
                have h221 := h221.mono S_
                have h225 := S_ _ _ h225
                have hl226 := hl226.mono S_
                have h267 := h267.mono S_
                have r275 := r275.mono S_
                have h280 := S_ _ _ h280
                have hl281 := hl281.mono S_
                have h381 := h381.mono S_
                have h401 := h401.mono S_
                have h420 := h420.mono S_
                have h440 := h440.mono S_
                have h459 := h459.mono S_
                have h463 := S_ _ _ h463
                have r468 := r468.mono S_
                have r469 := r469.mono S_
                have r470 := r470.mono S_
                have r471 := r471.mono S_
                have h477 := S_ _ _ h477
                have hl478 := hl478.mono S_
                have h571 := h571.mono S_
                have h575 := S_ _ _ h575
                have hl576 := hl576.mono S_
                have r581 := r581.mono S_
                have h585 := S_ _ _ h585
                have hl586 := hl586.mono S_
                have r591 := r591.mono S_
                have h595 := S_ _ _ h595
                have hl596 := hl596.mono S_
                have r601 := r601.mono S_
                have r608 := r608.mono S_
                have h616 := h616.mono S_
                have r623 := r623.mono S_
                have h643 := h643.mono S_
                have h647 := S_ _ _ h647
                have hl648 := hl648.mono S_
                have h688 := h688.mono S_
                have h708 := h708.mono S_
                have O721 := O705.got O720 rfl hn716 hf717 h718
                have z722 := O705.was hn716
                obtain ⟨F723, O724, S725, h726⟩ := O721.frzE 0 rfl z722
                have f_script := S725.seq f_script
                have h7 := h7.mono S725
                have h15 := h15.mono S725
                have h20 := S725 _ _ h20
                have hl21 := hl21.mono S725
                have h25 := S725 _ _ h25
                have hl26 := hl26.mono S725
                have h34 := h34.mono S725
                have h39 := S725 _ _ h39
                have hl40 := hl40.mono S725
                have S51 := S51.trans S725
                have h89 := h89.mono S725
                have h103 := S725 _ _ h103
                have hl104 := hl104.mono S725
                have h116 := h116.mono S725
                have h130 := S725 _ _ h130
                have hl131 := hl131.mono S725
                have r146 := r146.mono S725
                have r157 := r157.mono S725
                have hl166 := hl166.mono S725
                have r174 := r174.mono S725
                have h194 := h194.mono S725
                have r201 := r201.mono S725
                have h221 := h221.mono S725
                have h225 := S725 _ _ h225
                have hl226 := hl226.mono S725
                have h267 := h267.mono S725
                have r275 := r275.mono S725
                have h280 := S725 _ _ h280
                have hl281 := hl281.mono S725
                have h381 := h381.mono S725
                have h401 := h401.mono S725
                have h420 := h420.mono S725
                have h440 := h440.mono S725
                have h459 := h459.mono S725
                have h463 := S725 _ _ h463
                have r468 := r468.mono S725
                have r469 := r469.mono S725
                have r470 := r470.mono S725
                have r471 := r471.mono S725
                have h477 := S725 _ _ h477
                have hl478 := hl478.mono S725
                have h571 := h571.mono S725
                have h575 := S725 _ _ h575
                have hl576 := hl576.mono S725
                have r581 := r581.mono S725
                have h585 := S725 _ _ h585
                have hl586 := hl586.mono S725
                have r591 := r591.mono S725
                have h595 := S725 _ _ h595
                have hl596 := hl596.mono S725
                have r601 := r601.mono S725
                have r608 := r608.mono S725
                have h616 := h616.mono S725
                have r623 := r623.mono S725
                have h643 := h643.mono S725
                have h647 := S725 _ _ h647
                have hl648 := hl648.mono S725
                have h688 := h688.mono S725
                have h708 := h708.mono S725
                have hl719 := hl719.mono S725
                have h727 := R.lst (a := Int) h726 hl719
                refine ⟨_, _, (R.mono h708 O724.s), (R.mono h727 O724.s), _, rfl, ?_⟩
                refine iteD (fun q728 => ?_) (fun q728 => ?_)
                · have hk := wp_if hk q728
                  refine iteT ?_
                  exact hk _ _  O724.g 
                · have hk := wp_el hk q728
                  refine ⟨_, rfl, _, rfl, _, _, _, _, _, rfl, O724.pre0, r623, h616, wp_call hk (fun r729 er730 hk F731 H732 g733 p734 w735 hn736 hf737 h738 hl739 => ?_) (fun n hn C H1 hC kp => hn.elim)⟩
                  have O740 := O724.call0 g733
                  have S_ := g733.f
                  have f_script := S_.seq f_script
                  have h7 := h7.mono S_
                  have h15 := h15.mono S_
                  have h20 := S_ _ _ h20
                  have hl21 := hl21.mono S_
                  have h25 := S_ _ _ h25
                  have hl26 := hl26.mono S_
                  have h34 := h34.mono S_
                  have h39 := S_ _ _ h39
                  have hl40 := hl40.mono S_
                  have S51 := S51.trans S_
                  have h89 := h89.mono S_
                  have h103 := S_ _ _ h103
                  have hl104 := hl104.mono S_
                  have h116 := h116.mono S_
                  have h130 := S_ _ _ h130
                  have hl131 := hl131.mono S_
                  have r146 := r146.mono S_
                  have r157 := r157.mono S_
                  have hl166 := hl166.mono S_
                  have r174 := r174.mono S_
                  have h194 := h194.mono S_
                  have r201 := r201.mono S_
                  have h221 := h221.mono S_
                  have h225 := S_ _ _ h225
                  have hl226 := hl226.mono S_
                  have h267 := h267.mono S_
                  have r275 := r275.mono S_
                  have h280 := S_ _ _ h280
                  have hl281 := hl281.mono S_
                  have h381 := h381.mono S_
                  have h401 := h401.mono S_
                  have h420 := h420.mono S_
                  have h440 := h440.mono S_
                  have h459 := h459.mono S_
                  have h463 := S_ _ _ h463
                  have r468 := r468.mono S_
                  have r469 := r469.mono S_
                  have r470 := r470.mono S_
                  have r471 := r471.mono S_
                  have h477 := S_ _ _ h477
                  have hl478 := hl478.mono S_
                  have h571 := h571.mono S_
                  have h575 := S_ _ _ h575
                  have hl576 := hl576.mono S_
                  have r581 := r581.mono S_
                  have h585 := S_ _ _ h585
                  have hl586 := hl586.mono S_
                  have r591 := r591.mono S_
                  have h595 := S_ _ _ h595
                  have hl596 := hl596.mono S_
                  have r601 := r601.mono S_
                  have r608 := r608.mono S_
                  have h616 := h616.mono S_
                  have r623 := r623.mono S_
                  have h643 := h643.mono S_
                  have h647 := S_ _ _ h647
                  have hl648 := hl648.mono S_
                  have h688 := h688.mono S_
                  have h708 := h708.mono S_
                  have h727 := h727.mono S_
                  have O741 := O724.got O740 rfl hn736 hf737 h738
                  have z742 := O724.was hn736
                  obtain ⟨F743, O744, S745, h746⟩ := O741.frzE 0 rfl z742
                  have f_script := S745.seq f_script
                  have h7 := h7.mono S745
                  have h15 := h15.mono S745
                  have h20 := S745 _ _ h20
                  have hl21 := hl21.mono S745
                  have h25 := S745 _ _ h25
                  have hl26 := hl26.mono S745
                  have h34 := h34.mono S745
                  have h39 := S745 _ _ h39
                  have hl40 := hl40.mono S745
                  have S51 := S51.trans S745
                  have h89 := h89.mono S745
                  have h103 := S745 _ _ h103
                  have hl104 := hl104.mono S745
                  have h116 := h116.mono S745
                  have h130 := S745 _ _ h130
                  have hl131 := hl131.mono S745
                  have r146 := r146.mono S745
                  have r157 := r157.mono S745
                  have hl166 := hl166.mono S745
                  have r174 := r174.mono S745
                  have h194 := h194.mono S745
                  have r201 := r201.mono S745
                  have h221 := h221.mono S745
                  have h225 := S745 _ _ h225
                  have hl226 := hl226.mono S745
                  have h267 := h267.mono S745
                  have r275 := r275.mono S745
                  have h280 := S745 _ _ h280
                  have hl281 := hl281.mono S745
                  have h381 := h381.mono S745
                  have h401 := h401.mono S745
                  have h420 := h420.mono S745
                  have h440 := h440.mono S745
                  have h459 := h459.mono S745
                  have h463 := S745 _ _ h463
                  have r468 := r468.mono S745
                  have r469 := r469.mono S745
                  have r470 := r470.mono S745
                  have r471 := r471.mono S745
                  have h477 := S745 _ _ h477
                  have hl478 := hl478.mono S745
                  have h571 := h571.mono S745
                  have h575 := S745 _ _ h575
                  have hl576 := hl576.mono S745
                  have r581 := r581.mono S745
                  have h585 := S745 _ _ h585
                  have hl586 := hl586.mono S745
                  have r591 := r591.mono S745
                  have h595 := S745 _ _ h595
                  have hl596 := hl596.mono S745
                  have r601 := r601.mono S745
                  have r608 := r608.mono S745
                  have h616 := h616.mono S745
                  have r623 := r623.mono S745
                  have h643 := h643.mono S745
                  have h647 := S745 _ _ h647
                  have hl648 := hl648.mono S745
                  have h688 := h688.mono S745
                  have h708 := h708.mono S745
                  have h727 := h727.mono S745
                  have hl739 := hl739.mono S745
                  have h747 := R.lst (a := Int) h746 hl739
                  refine ⟨_, rfl, _, rfl, _, _, _, _, _, rfl, O744.pre0, r146, r157, wp_call hk (fun r748 er749 hk F750 H751 g752 p753 w754 hn755 hf756 h757 hl758 => ?_) (fun n hn C H1 hC kp => hn.elim)⟩
                  have O759 := O744.call0 g752
                  have S_ := g752.f
                  have f_script := S_.seq f_script
                  have h7 := h7.mono S_
                  have h15 := h15.mono S_
                  have h20 := S_ _ _ h20
                  have hl21 := hl21.mono S_
                  have h25 := S_ _ _ h25
                  have hl26 := hl26.mono S_
                  have h34 := h34.mono S_
                  have h39 := S_ _ _ h39
                  have hl40 := hl40.mono S_
                  have S51 := S51.trans S_
                  have h89 := h89.mono S_
                  have h103 := S_ _ _ h103
                  have hl104 := hl104.mono S_
                  have h116 := h116.mono S_
                  have h130 := S_ _ _ h130
                  have hl131 := hl131.mono S_
                  have r146 := r146.mono S_
                  have r157 := r157.mono S_
                  have hl166 := hl166.mono S_
                  have r174 := r174.mono S_
                  have h194 := h194.mono S_
                  have r201 := r201.mono S_
                  have h221 := h221.mono S_
                  have h225 := S_ _ _ h225
                  have hl226 := hl226.mono S_
                  have h267 := h267.mono S_
                  have r275 := r275.mono S_
                  have h280 := S_ _ _ h280
                  have hl281 := hl281.mono S_
                  have h381 := h381.mono S_
                  have h401 := h401.mono S_
                  have h420 := h420.mono S_
                  have h440 := h440.mono S_
                  have h459 := h459.mono S_
                  have h463 := S_ _ _ h463
                  have r468 := r468.mono S_
                  have r469 := r469.mono S_
                  have r470 := r470.mono S_
                  have r471 := r471.mono S_
                  have h477 := S_ _ _ h477
                  have hl478 := hl478.mono S_
                  have h571 := h571.mono S_
                  have h575 := S_ _ _ h575
                  have hl576 := hl576.mono S_
                  have r581 := r581.mono S_
                  have h585 := S_ _ _ h585
                  have hl586 := hl586.mono S_
                  have r591 := r591.mono S_
                  have h595 := S_ _ _ h595
                  have hl596 := hl596.mono S_
                  have r601 := r601.mono S_
                  have r608 := r608.mono S_
                  have h616 := h616.mono S_
                  have r623 := r623.mono S_
                  have h643 := h643.mono S_
                  have h647 := S_ _ _ h647
                  have hl648 := hl648.mono S_
                  have h688 := h688.mono S_
                  have h708 := h708.mono S_
                  have h727 := h727.mono S_
                  have h747 := h747.mono S_
                  have O760 := O744.got O759 rfl hn755 hf756 h757
                  have z761 := O744.was hn755
                  obtain ⟨F762, O763, S764, h765⟩ := O760.frzE 0 rfl z761
                  have f_script := S764.seq f_script
                  have h7 := h7.mono S764
                  have h15 := h15.mono S764
                  have h20 := S764 _ _ h20
                  have hl21 := hl21.mono S764
                  have h25 := S764 _ _ h25
                  have hl26 := hl26.mono S764
                  have h34 := h34.mono S764
                  have h39 := S764 _ _ h39
                  have hl40 := hl40.mono S764
                  have S51 := S51.trans S764
                  have h89 := h89.mono S764
                  have h103 := S764 _ _ h103
                  have hl104 := hl104.mono S764
                  have h116 := h116.mono S764
                  have h130 := S764 _ _ h130
                  have hl131 := hl131.mono S764
                  have r146 := r146.mono S764
                  have r157 := r157.mono S764
                  have hl166 := hl166.mono S764
                  have r174 := r174.mono S764
                  have h194 := h194.mono S764
                  have r201 := r201.mono S764
                  have h221 := h221.mono S764
                  have h225 := S764 _ _ h225
                  have hl226 := hl226.mono S764
                  have h267 := h267.mono S764
                  have r275 := r275.mono S764
                  have h280 := S764 _ _ h280
                  have hl281 := hl281.mono S764
                  have h381 := h381.mono S764
                  have h401 := h401.mono S764
                  have h420 := h420.mono S764
                  have h440 := h440.mono S764
                  have h459 := h459.mono S764
                  have h463 := S764 _ _ h463
                  have r468 := r468.mono S764
                  have r469 := r469.mono S764
                  have r470 := r470.mono S764
                  have r471 := r471.mono S764
                  have h477 := S764 _ _ h477
                  have hl478 := hl478.mono S764
                  have h571 := h571.mono S764
                  have h575 := S764 _ _ h575
                  have hl576 := hl576.mono S764
                  have r581 := r581.mono S764
                  have h585 := S764 _ _ h585
                  have hl586 := hl586.mono S764
                  have r591 := r591.mono S764
                  have h595 := S764 _ _ h595
                  have hl596 := hl596.mono S764
                  have r601 := r601.mono S764
                  have r608 := r608.mono S764
                  have h616 := h616.mono S764
                  have r623 := r623.mono S764
                  have h643 := h643.mono S764
                  have h647 := S764 _ _ h647
                  have hl648 := hl648.mono S764
                  have h688 := h688.mono S764
                  have h708 := h708.mono S764
                  have h727 := h727.mono S764
                  have h747 := h747.mono S764
                  have hl758 := hl758.mono S764
                  have h766 := R.lst (a := Int) h765 hl758
                  refine ⟨_, _, (R.mono h747 O763.s), (R.mono h766 O763.s), _, rfl, ?_⟩
                  refine iteD (fun q767 => ?_) (fun q767 => ?_)
                  · have hk := wp_if hk q767
                    exact hk _ _  O763.g 
                  · have hk := wp_el hk q767
                    have O768 := O763.drop 0
                    exact ⟨F762, (), some (V.int y41), some (V.ref p74), some v145, some (V.ref p461), some (V.int ((1 : Int) + r159.1)), some (V.ref p277), some (V.ref p181), some v200, some (V.ref p485), some (V.ref p610), some v622, rfl, S51, O768, hk⟩
    rintro sg769 H770 ⟨F785, st772, t774, t775, t776, t777, t778, t779, t780, t781, t782, t783, t784, rfl, S771, O786, hL773⟩
    rw [drop_end hl40.len] at hL773
    have hk := hLd45 _ hL773
    have f_script := S771.seq f_script
    have h7 := h7.mono S771
    have h15 := h15.mono S771
    have h20 := S771 _ _ h20
    have hl21 := hl21.mono S771
    have h25 := S771 _ _ h25
    have hl26 := hl26.mono S771
    have h34 := h34.mono S771
    have h39 := S771 _ _ h39
    have hl40 := hl40.mono S771
    exact hk _ _  O786.g 
end
set_option maxHeartbeats 2000000
def m_law_value : Nat → Sm → (List (Str × IL)) → M (Int)
  | 0, _, _ => bad
  | k_ + 1, x_told, x_known =>
    if (Sm.word x_told) = ("number" : Str) then (
    opt (Sm.int? x_told) >>= fun y6 =>
    .ok y6)
    else (
    if (Sm.word x_told) ∈ ([(("own" : Str), ("tie" : Str)).1, (("own" : Str), ("tie" : Str)).2]) then (
    opt (dGet x_known (Sm.word x_told)) >>= fun y40 =>
    opt (IL.i? y40) >>= fun y45 =>
    .ok y45)
    else (
    if (Sm.word x_told) ∈ ([(("so" : Str), ("more" : Str)).1, (("so" : Str), ("more" : Str)).2]) then (
    opt (dGet x_known (Sm.word x_told)) >>= fun y76 =>
    opt (Sm.int? x_told) >>= fun y81 =>
    opt (IL.l? y76) >>= fun y87 =>
    opt (atI y87 y81) >>= fun y95 =>
    .ok y95)
    else (
    opt (Sm.two? x_told) >>= fun y100 =>
    compS (fun (y117 : Sm) (st134 : Unit) =>
    m_law_value k_ y117 x_known >>= fun r140 =>
    .ok (some r140, ())) ([y100.1, y100.2]) () >>= fun q157 =>
    two2 q157.1 >>= fun (x168, y169) =>
    if (Sm.word x_told) = ("times" : Str) then (
    chk (CMulW x168 y169) >>= fun _ =>
    .ok (x168 * y169))
    else (
    if (Sm.word x_told) ∈ ([(("plus" : Str), ("less" : Str)).1, (("plus" : Str), ("less" : Str)).2]) then (
    opt (atI ([(1 : Int), (-(1 : Int))]) (if (decide ((Sm.word x_told) = ("less" : Str))) = true then (1 : Int) else 0)) >>= fun y225 =>
    chk (CMulW y225 y169) >>= fun _ =>
    .ok (x168 + (y225 * y169)))
    else (
    opt (atI (sortT ([x168, y169])) (if (decide ((Sm.word x_told) = ("most" : Str))) = true then (1 : Int) else 0)) >>= fun y261 =>
    .ok y261)))))
def m_law_near (x_tree : ((List Int) × (List (T3 Int Int Int)))) (x_place : Int) : M ((List (Int × Int))) :=
compS (fun (y14 : (T3 Int Int Int)) (st31 : Unit) =>
if x_place ∈ ([(y14.a, y14.b).1, (y14.a, y14.b).2]) then (
.ok (some (((y14.a + y14.b) - x_place), y14.c), ()))
else (
.ok (none, ()))) x_tree.2 () >>= fun q79 =>
.ok (sortT q79.1)
mutual
def m_law_row : Nat → ((List Int) × (List (T3 Int Int Int))) → (T4 (List Sm) (List Sm) (List Sm) Sm) → Int → (Option Int) → M ((List Int))
  | 0, _, _, _, _ => bad
  | k_ + 1, x_tree, x_rule, x_place, x_without =>
    opt (atI x_tree.1 x_place) >>= fun y13 =>
    compS (fun (y34 : Sm) (st51 : Unit) =>
    m_law_value 12 y34 (mergeDS [(("own" : Str), (IL.i y13))]) >>= fun r68 =>
    .ok (some r68, ())) x_rule.a () >>= fun q86 =>
    m_law_near x_tree x_place >>= fun r92 =>
    loopN (fun (y116 : (Int × Int)) (st127 : (List Int)) =>
    if (some y116.1) ≠ x_without then (
    m_law_branch k_ x_tree x_rule x_place y116.1 y116.2 >>= fun r145 =>
    compS (fun (y158 : Sm) (st175 : Unit) =>
    m_law_value 12 y158 (mergeDS [(("own" : Str), (IL.i y13)), (("so" : Str), (IL.l st127)), (("more" : Str), (IL.l r145))]) >>= fun r192 =>
    .ok (some r192, ())) x_rule.c () >>= fun q210 =>
    .ok q210.1)
    else (
    .ok st127)) r92 q86.1 >>= fun st219 =>
    .ok st219
def m_law_branch : Nat → ((List Int) × (List (T3 Int Int Int))) → (T4 (List Sm) (List Sm) (List Sm) Sm) → Int → Int → Int → M ((List Int))
  | 0, _, _, _, _, _ => bad
  | k_ + 1, x_tree, x_rule, x_a, x_b, x_length =>
    m_law_row k_ x_tree x_rule x_b (some x_a) >>= fun r1 =>
    compS (fun (y25 : Sm) (st42 : Unit) =>
    opt (atI x_tree.1 x_b) >>= fun y66 =>
    m_law_value 12 y25 (mergeDS [(("own" : Str), (IL.i y66)), (("tie" : Str), (IL.i x_length)), (("more" : Str), (IL.l r1))]) >>= fun r76 =>
    .ok (some r76, ())) x_rule.b () >>= fun q94 =>
    .ok q94.1
end

def m_law_seat (x_tree : ((List Int) × (List (T3 Int Int Int)))) (x_rule : (T4 (List Sm) (List Sm) (List Sm) Sm)) (x_place : Int) : M (Int) :=
opt (atI x_tree.1 x_place) >>= fun y30 =>
m_law_row 100 x_tree x_rule x_place (none : (Option Int)) >>= fun r35 =>
m_law_value 12 x_rule.d (mergeDS [(("own" : Str), (IL.i y30)), (("so" : Str), (IL.l r35))]) >>= fun r48 =>
.ok r48

/-! mirrors of the drawn sums, for laws that lack them -/
def m_law_leaf (x_deck : (List Int)) (x_leaves : (List Str)) (x_many : Int) : M (Sm × (List Int)) :=
m_law_take x_deck ((1 : Int) + (x_leaves.length : Int)) >>= fun r6 =>
if r6.1 = (0 : Int) then (
m_law_take r6.2 (19 : Int) >>= fun r16 =>
.ok ((Sm.num (("number" : Str), (r16.1 - (9 : Int))).1 (("number" : Str), (r16.1 - (9 : Int))).2), r16.2))
else (
opt (atI x_leaves (r6.1 - (1 : Int))) >>= fun y37 =>
if y37 ∈ ([(("so" : Str), ("more" : Str)).1, (("so" : Str), ("more" : Str)).2]) then (
opt (atI x_leaves (r6.1 - (1 : Int))) >>= fun y62 =>
m_law_take r6.2 x_many >>= fun r67 =>
.ok ((Sm.num (y62, r67.1).1 (y62, r67.1).2), r67.2))
else (
opt (atI x_leaves (r6.1 - (1 : Int))) >>= fun y88 =>
.ok ((Sm.nam y88), r6.2)))
def m_law_sum : Nat → (List Int) → (List Str) → Int → Int → Bool → M (Sm × (List Int))
  | 0, _, _, _, _, _ => bad
  | k_ + 1, x_deck, x_leaves, x_many, x_deep, x_times =>
    m_law_take x_deck (7 : Int) >>= fun r1 =>
    if x_deep = (0 : Int) then (
    m_law_leaf r1.2 x_leaves x_many >>= fun r11 =>
    .ok (r11.1, r11.2))
    else (
    if r1.1 < (2 : Int) then (
    m_law_leaf r1.2 x_leaves x_many >>= fun r23 =>
    .ok (r23.1, r23.2))
    else (
    if r1.1 = (6 : Int) then (
    if x_times = true then (
    m_law_leaf r1.2 (cutL x_leaves (some (-(1 : Int))) none) x_many >>= fun r49 =>
    m_law_leaf r49.2 ([] : List Str) (1 : Int) >>= fun r68 =>
    m_law_leaf r68.2 (cutL x_leaves none (some (1 : Int))) x_many >>= fun r92 =>
    m_law_take r92.2 (2 : Int) >>= fun r111 =>
    opt (atI ([r68.1, r92.1]) r111.1) >>= fun y125 =>
    .ok ((Sm.two (T3.mk ("times" : Str) y125 r49.1).a (T3.mk ("times" : Str) y125 r49.1).b (T3.mk ("times" : Str) y125 r49.1).c), r111.2))
    else (
    m_law_sum k_ r1.2 x_leaves x_many (x_deep - (1 : Int)) x_times >>= fun r137 =>
    opt (atI ([("plus" : Str), ("less" : Str), ("most" : Str), ("least" : Str), ("plus" : Str)]) (r1.1 - (2 : Int))) >>= fun y161 =>
    m_law_sum k_ r137.2 x_leaves x_many (x_deep - (1 : Int)) x_times >>= fun r166 =>
    .ok ((Sm.two (T3.mk y161 r137.1 r166.1).a (T3.mk y161 r137.1 r166.1).b (T3.mk y161 r137.1 r166.1).c), r166.2)))
    else (
    m_law_sum k_ r1.2 x_leaves x_many (x_deep - (1 : Int)) x_times >>= fun r184 =>
    opt (atI ([("plus" : Str), ("less" : Str), ("most" : Str), ("least" : Str), ("plus" : Str)]) (r1.1 - (2 : Int))) >>= fun y208 =>
    m_law_sum k_ r184.2 x_leaves x_many (x_deep - (1 : Int)) x_times >>= fun r213 =>
    .ok ((Sm.two (T3.mk y208 r184.1 r213.1).a (T3.mk y208 r184.1 r213.1).b (T3.mk y208 r184.1 r213.1).c), r213.2))))

/-! ### the law's own helpers -/
theorem take_ok (d m : Int) (h : 0 < m) (h2 : m ≤ 10 ^ 40) : m_law_take [d] m = .ok (d % m, [d / m]) := by
  unfold m_law_take
  rw [opt_b (show L2.atI [d] (0 : Int) = some d from rfl), chk_b h, opt_b (show L2.atI [d] (0 : Int) = some d from rfl), chk_b (cdivW h h2)]
  rfl
theorem pow10 (n : Nat) : (10 : Int) ^ n = ((10 ^ n : Nat) : Int) := by rw [Int.natCast_pow]; rfl
theorem stir_ok (c k : Int) (h : 1 ≤ k ∧ k ≤ 3) : ∃ s, m_law_stir c k = .ok s ∧ 0 ≤ s ∧ s < 10 ^ 62 := by
  unfold m_law_stir
  have e40 : (10 : Int) ^ Int.toNat (40 : Int) = 10000000000000000000000000000000000000000 := by decide
  have e60 : (3 : Int) ^ Int.toNat (60 : Int) = 42391158275216203514294433201 := by decide
  have e61 : (10 : Int) ^ Int.toNat (61 : Int) = 10000000000000000000000000000000000000000000000000000000000000 := by decide
  rw [e40, e60, e61]
  obtain ⟨r, hr⟩ : ∃ r, r = c % 10000000000000000000000000000000000000000 := ⟨_, rfl⟩
  have r0 : 0 ≤ r := by omega
  have r1 : r < 10000000000000000000000000000000000000000 := by omega
  rw [← hr]
  rw [chk_b (by decide)]
  rw [chk_b (cmulW (Nat.lt_of_lt_of_le (m := 10 ^ 40) (by omega) (by decide +kernel)) (by decide +kernel))]
  rw [chk_b (cmulW (by decide +kernel) (Nat.lt_of_lt_of_le (m := 5) (by omega) (by decide +kernel)))]
  obtain ⟨q, hq⟩ : ∃ q, q = 42391158275216203514294433201 * (k + 1) := ⟨_, rfl⟩
  have q0 : 0 ≤ q ∧ q ≤ 42391158275216203514294433201 * 4 := by omega
  rw [← hq]
  rw [chk_b (cmulW (Nat.lt_of_lt_of_le (m := 10 ^ 40) (by omega) (by decide +kernel)) (Nat.lt_of_lt_of_le (m := 5) (by omega) (by decide +kernel)))]
  have q2 : 0 ≤ q * (k + 1) ∧ q * (k + 1) ≤ 42391158275216203514294433201 * 16 := by
    have : k = 1 ∨ k = 2 ∨ k = 3 := by omega
    rcases this with rfl | rfl | rfl <;> omega
  rw [ret_b]
  obtain ⟨n, hn⟩ : ∃ n, n = r * 48271 + q * (k + 1) + k := ⟨_, rfl⟩
  rw [← hn]
  have n0 : 0 ≤ n := by omega
  have n1 : n.natAbs < 2 ^ 160 := Nat.lt_of_lt_of_le (m := 10 ^ 46) (by omega) (by decide)
  rw [chk_b (cmulW (Nat.lt_of_lt_of_le n1 (Nat.pow_le_pow_right (by decide) (by decide))) (Nat.lt_of_lt_of_le n1 (Nat.pow_le_pow_right (by decide) (by decide))))]
  rw [chk_b (cmulW (by decide +kernel) (Nat.lt_of_lt_of_le n1 (Nat.pow_le_pow_right (by decide) (by decide))))]
  rw [ret_b]
  have m1 : (n * n).natAbs < 2 ^ (160 + 160) := wide_lt n1 n1
  have m2 : ((69621 : Int) * n).natAbs < 2 ^ (17 + 160) := wide_lt (by decide) n1
  have m3 : (n * n + 69621 * n).natAbs < 2 ^ 321 := by
    have a1 := Int.natAbs_add_le (n * n) (69621 * n)
    have a2 : (2 : Nat) ^ (17 + 160) ≤ 2 ^ 320 := Nat.pow_le_pow_right (by decide) (by decide)
    have a3 : (2 : Nat) ^ 321 = 2 ^ 320 + 2 ^ 320 := by decide
    omega
  rw [chk_b (cmulW (Nat.lt_of_lt_of_le m3 (Nat.pow_le_pow_right (by decide) (by decide))) (Nat.lt_of_lt_of_le m3 (Nat.pow_le_pow_right (by decide) (by decide))))]
  rw [chk_b (by decide), chk_b (cdivW (by decide) (by decide))]
  refine ⟨_, rfl, ?_⟩
  have : (10 : Int) ^ 62 = 100000000000000000000000000000000000000000000000000000000000000 := by decide
  rw [this]
  omega
theorem deck_ok (c : Int) : ∃ d, m_law_deck c = .ok [d] := by
  unfold m_law_deck
  have e60 : (10 : Int) ^ Int.toNat (60 : Int) = 10 ^ 60 := rfl
  by_cases h : (10 : Int) ^ Int.toNat (18 : Int) ≤ c
  · rw [if_pos h]
    exact ⟨_, rfl⟩
  · rw [if_neg h]
    obtain ⟨s1, e1, a1, b1⟩ := stir_ok c 1 (by decide)
    obtain ⟨s2, e2, a2, b2⟩ := stir_ok c 2 (by decide)
    obtain ⟨s3, e3, _, _⟩ := stir_ok c 3 (by decide)
    have k62 : ((10 : Int) ^ 62).natAbs < 2 ^ 210 := by decide
    have w1 : s1.natAbs < 2 ^ 210 := wide_le a1 (Int.le_of_lt b1) k62
    have w2 : s2.natAbs < 2 ^ 210 := wide_le a2 (Int.le_of_lt b2) k62
    have k60 : ((10 : Int) ^ 60).natAbs < 2 ^ 200 := by decide
    rw [bind_ok e1, e60, chk_b (cmulW (Nat.lt_of_lt_of_le w1 (Nat.pow_le_pow_right (by decide) (by decide))) (Nat.lt_of_lt_of_le k60 (Nat.pow_le_pow_right (by decide) (by decide)))), bind_ok e2]
    have m1 : (s1 * 10 ^ 60).natAbs < 2 ^ (210 + 200) := wide_lt w1 k60
    have m2 : (s1 * 10 ^ 60 + s2).natAbs < 2 ^ 411 := by
      have x1 := Int.natAbs_add_le (s1 * 10 ^ 60) s2
      have x2 : (2 : Nat) ^ 210 ≤ 2 ^ 410 := Nat.pow_le_pow_right (by decide) (by decide)
      have x3 : (2 : Nat) ^ 411 = 2 ^ 410 + 2 ^ 410 := by decide
      omega
    rw [chk_b (cmulW (Nat.lt_of_lt_of_le m2 (Nat.pow_le_pow_right (by decide) (by decide))) (Nat.lt_of_lt_of_le k60 (Nat.pow_le_pow_right (by decide) (by decide)))), bind_ok e3]
    exact ⟨_, rfl⟩
/-- how far numbers go -/
def farB : Int := 100000000000000000000000000000
theorem number_ok (d far : Int) (h : 0 ≤ far) (h2 : far ≤ farB) : ∃ x d', m_law_number [d] far = .ok (x, [d']) ∧ -far ≤ x ∧ x ≤ far := by
  unfold m_law_number
  have hb : far ≤ 100000000000000000000000000000 := h2
  rw [chk_b (cmulW (by decide +kernel) (Nat.lt_of_lt_of_le (m := 10 ^ 40) (by omega) (by decide +kernel)))]
  rw [bind_ok (take_ok d (2 * far + 1) (by omega) (by have : (10 : Int) ^ 40 = 10000000000000000000000000000000000000000 := by decide
                                                      omega))]
  refine ⟨_, _, rfl, ?_, ?_⟩
  · show -far ≤ d % (2 * far + 1) - far
    have := Int.emod_nonneg d (show (2 * far + 1) ≠ 0 by omega)
    omega
  · show d % (2 * far + 1) - far ≤ far
    have := Int.emod_lt_of_pos d (show 0 < (2 * far + 1) by omega)
    omega
theorem take_small (d m : Int) (h : 0 < m) (h2 : m ≤ 1000000) : ∃ x d', m_law_take [d] m = .ok (x, [d']) ∧ 0 ≤ x ∧ x < m := by
  have k : (10 : Int) ^ 40 = 10000000000000000000000000000000000000000 := by decide
  exact ⟨_, _, take_ok d m h (by omega), Int.emod_nonneg _ (by omega), Int.emod_lt_of_pos _ h⟩
theorem nums_ok (far : Int) (h : 0 ≤ far) (h2 : far ≤ farB) {items : List Int} (hl : items.length < 16777216) (d : Int) :
    ∃ xs d', compS (fun (_ : Int) (st : List Int) => m_law_number st far >>= fun r => .ok (some r.1, r.2)) items [d] = .ok (xs, [d']) ∧ xs.length = items.length ∧ ∀ x ∈ xs, -far ≤ x ∧ x ≤ far := by
  obtain ⟨acc, st, e, ⟨d', rfl⟩, h3, h4⟩ := compS_run (f := fun (_ : Int) (st : List Int) => m_law_number st far >>= fun r => .ok (some r.1, r.2)) hl
    (fun pre acc st => (∃ d', st = [d']) ∧ acc.length = pre.length ∧ ∀ x ∈ acc, -far ≤ x ∧ x ≤ far) (x := [d]) ⟨⟨d, rfl⟩, rfl, fun _ h => nomatch h⟩ fun pre y post acc st _ ⟨⟨d', hd⟩, h3, h4⟩ => by
      subst hd
      obtain ⟨x, d2, e, hx⟩ := number_ok d' far h h2
      refine ⟨some x, [d2], by rw [bind_ok e], ⟨d2, rfl⟩, by simp [h3], fun z hz => ?_⟩
      rcases List.mem_append.mp hz with hz | hz
      · exact h4 z hz
      · rw [List.mem_singleton.mp hz]; exact hx
  exact ⟨acc, d', e, h3, h4⟩
theorem rangeL_mem {lo hi x : Int} : x ∈ rangeL lo hi ↔ lo ≤ x ∧ x < hi := by
  unfold rangeL
  rw [List.mem_map]
  constructor
  · rintro ⟨j, hj, rfl⟩
    have := List.mem_range.mp hj
    omega
  · rintro ⟨h1, h2⟩
    exact ⟨(x - lo).toNat, List.mem_range.mpr (by omega), by omega⟩
theorem rangeL_nodup (lo hi : Int) : (rangeL lo hi).Nodup := by
  unfold rangeL
  rw [List.nodup_iff_pairwise_ne, List.pairwise_map]
  exact List.nodup_range.imp fun h e => h (by omega)
/-- an order of all places -/
theorem order_ok (d n : Int) (h0 : 0 ≤ n) (h1 : n ≤ 1000000) : ∃ o d', m_law_order [d] n = .ok (o, [d']) ∧ o.Perm (rangeL 0 n) := by
  unfold m_law_order
  have hr : okR n := ⟨by omega, h1⟩
  rw [chk_b hr, chk_b hr]
  have hlen : (rangeL 0 n).length = n.toNat := by rw [rangeL_length]; omega
  obtain ⟨st, e, h2⟩ := loopN_run (f := fun (_ : Int) (st26 : (List Int) × (List Int) × (List Int)) =>
      m_law_take st26.2.2 (st26.2.1.length : Int) >>= fun r36 => popI st26.2.1 r36.1 >>= fun t54 => appL st26.1 t54.1 >>= fun _ => (.ok ((st26.1 ++ [t54.1]), t54.2, r36.2) : M _))
    (all := rangeL 0 n) (fun pre st => (∃ d', st.2.2 = [d']) ∧ (st.1 ++ st.2.1).Perm (rangeL 0 n) ∧ st.1.length = pre.length) (x := ([], rangeL 0 n, [d])) ⟨⟨d, rfl⟩, List.Perm.refl _, rfl⟩ fun pre y post st ea ⟨⟨d', hd⟩, hp, hl⟩ => by
      obtain ⟨fs, ls, ds⟩ := st
      have hd : ds = [d'] := hd
      subst hd
      have hp : (fs ++ ls).Perm (rangeL 0 n) := hp
      have hl : fs.length = pre.length := hl
      have hpl := hp.length_eq
      rw [List.length_append, hlen] at hpl
      have hal := congrArg List.length ea
      rw [List.length_append, List.length_cons, hlen] at hal
      obtain ⟨x, d2, ex, x0, x1⟩ := take_small d' (ls.length : Int) (by omega) (by omega)
      have hx : x.toNat < ls.length := by omega
      have eg : ls[x.toNat]? = some ls[x.toNat] := List.getElem?_eq_getElem hx
      refine ⟨(fs ++ [ls[x.toNat]], ls.eraseIdx x.toNat, [d2]), ?_, ⟨d2, rfl⟩, ?_, by simp [hl]⟩
      · show (m_law_take [d'] (ls.length : Int) >>= fun r36 => popI ls r36.1 >>= fun t54 => appL fs t54.1 >>= fun _ => (.ok ((fs ++ [t54.1]), t54.2, r36.2) : M _)) = _
        rw [bind_ok ex, bind_ok (popI_ok x0 eg (by omega)), bind_ok (appL_ok (by omega))]
      · show ((fs ++ [ls[x.toNat]]) ++ ls.eraseIdx x.toNat).Perm (rangeL 0 n)
        refine List.Perm.trans ?_ hp
        rw [List.append_assoc]
        refine List.Perm.append_left fs ?_
        show (ls[x.toNat] :: ls.eraseIdx x.toNat).Perm ls
        exact erase_perm hx
  obtain ⟨fs, ls, ds⟩ := st
  obtain ⟨⟨d', hd⟩, hp, hl⟩ := h2
  have hd : ds = [d'] := hd
  subst hd
  have hp : (fs ++ ls).Perm (rangeL 0 n) := hp
  have hl : fs.length = (rangeL 0 n).length := hl
  have hpl := hp.length_eq
  rw [List.length_append] at hpl
  have : ls = [] := List.length_eq_zero_iff.mp (by omega)
  subst this
  rw [List.append_nil] at hp
  rw [bind_ok e]
  exact ⟨fs, d', rfl, hp⟩

theorem at5 (a b c d e k : Int) (h : 0 ≤ k) (h5 : k < 5) (P : Int → Prop) (pa : P a) (pb : P b) (pc : P c) (pd : P d) (pe : P e) : ∃ x, L2.atI [a, b, c, d, e] k = some x ∧ P x := by
  obtain ⟨x, e1, e2⟩ := atI_some (xs := [a, b, c, d, e]) h (by simpa using h5)
  refine ⟨x, e1, ?_⟩
  have hm := List.mem_of_getElem? e2
  simp only [List.mem_cons, List.not_mem_nil, or_false] at hm
  rcases hm with rfl | rfl | rfl | rfl | rfl <;> assumption
theorem tree_ok (d most far : Int) (m1 : 1 ≤ most) (m2 : most ≤ 1000) (f0 : 0 ≤ far) (f1 : far ≤ farB) :
    ∃ t d', m_law_tree [d] most far = .ok (t, [d']) ∧ TreeOk t ∧ (t.1.length : Int) ≤ most ∧ (∀ x ∈ t.1, -far ≤ x ∧ x ≤ far) ∧ ∀ x ∈ t.2, -far ≤ x.c ∧ x.c ≤ far := by
  unfold m_law_tree
  obtain ⟨r, d1, e1, r0, r1⟩ := take_small d most (by omega) (by omega)
  rw [bind_ok e1]
  show ∃ t d', (m_law_order [d1] ((1 : Int) + r) >>= _) = _ ∧ _
  obtain ⟨o, d2, e2, po⟩ := order_ok d1 (1 + r) (by omega) (by omega)
  rw [bind_ok e2]
  obtain ⟨kd, d3, e3, k0, k5⟩ := take_small d2 5 (by decide) (by decide)
  show ∃ t d', (m_law_take [d2] 5 >>= _) = _ ∧ _
  rw [bind_ok e3, chk_b (show okR 1 by decide), chk_b (show okR (1 + r) from ⟨by omega, by omega⟩)]
  have olen : o.length = (1 + r).toNat := by
    have := po.length_eq
    rw [rangeL_length] at this
    omega
  have ond : o.Nodup := po.nodup_iff.mpr (rangeL_nodup _ _)
  obtain ⟨st, e4, h4⟩ := loopN_run (f := fun (y47 : Int) (st60 : (List Int) × (List (T3 Int Int Int))) =>
      m_law_take st60.1 y47 >>= fun r70 =>
      m_law_take r70.2 (3 : Int) >>= fun r79 =>
      m_law_take r79.2 y47 >>= fun r88 =>
      opt (atI ([r70.1, (y47 - (1 : Int)), (0 : Int), (if ((y47 - (1 : Int)) - r79.1) > (0 : Int) then ((y47 - (1 : Int)) - r79.1) else (0 : Int)), r88.1]) kd) >>= fun y110 =>
      opt (atI o y47) >>= fun y120 =>
      opt (atI o y110) >>= fun y130 =>
      opt (atI (sortT ([y120, y130])) (0 : Int)) >>= fun y161 =>
      opt (atI (sortT ([y120, y130])) (1 : Int)) >>= fun y171 =>
      m_law_number r88.2 far >>= fun r176 =>
      appL st60.2 (T3.mk y161 y171 r176.1) >>= fun _ =>
      (.ok (r176.2, (st60.2 ++ [(T3.mk y161 y171 r176.1)])) : M _)) (all := rangeL (1 : Int) ((1 : Int) + r)) (x := ([d3], []))
    (fun pre st => (∃ d', st.1 = [d']) ∧ Grown (o.take (pre.length + 1)) st.2 ∧ ∀ x ∈ st.2, -far ≤ x.c ∧ x.c ≤ far)
    ⟨⟨d3, rfl⟩, by
      cases o with
      | nil => simp at olen; omega
      | cons p o => exact Grown.one p, fun _ h => nomatch h⟩
    fun pre y post st ea ⟨⟨d', hd⟩, hg, hc⟩ => by
      obtain ⟨ds, ts⟩ := st
      have hd : ds = [d'] := hd
      subst hd
      have hg : Grown (o.take (pre.length + 1)) ts := hg
      have hc : ∀ x ∈ ts, -far ≤ x.c ∧ x.c ≤ far := hc
      -- the turn's number
      have hy : y = 1 + (pre.length : Int) ∧ pre.length < r.toNat := by
        have hl := congrArg List.length ea
        rw [rangeL_length, List.length_append, List.length_cons] at hl
        have hg2 : (rangeL 1 (1 + r))[pre.length]? = some y := by rw [ea]; simp
        unfold rangeL at hg2
        rw [List.getElem?_map, List.getElem?_range (by omega)] at hg2
        exact ⟨(Option.some.inj hg2).symm, by omega⟩
      obtain ⟨hy, hpl⟩ := hy
      obtain ⟨q1, d4, a1, b1, c1⟩ := take_small d' y (by omega) (by omega)
      obtain ⟨q2, d5, a2, b2, c2⟩ := take_small d4 3 (by decide) (by decide)
      obtain ⟨q3, d6, a3, b3, c3⟩ := take_small d5 y (by omega) (by omega)
      obtain ⟨at_, a4, b4, c4⟩ := at5 q1 (y - 1) 0 (if (y - 1) - q2 > 0 then (y - 1) - q2 else 0) q3 kd k0 k5 (fun x => 0 ≤ x ∧ x < y) ⟨b1, c1⟩ (by omega) (by omega) (by split <;> omega) ⟨b3, c3⟩
      obtain ⟨p, a5, b5⟩ := atI_some (xs := o) (j := y) (by omega) (by omega)
      obtain ⟨q, a6, b6⟩ := atI_some (xs := o) (j := at_) b4 (by omega)
      obtain ⟨c, d7, a7, b7⟩ := number_ok d6 far f0 f1
      have hq : q ∈ o.take (pre.length + 1) := by
        refine List.mem_iff_getElem?.mpr ⟨at_.toNat, ?_⟩
        rw [List.getElem?_take_of_lt (by omega)]
        exact b6
      have hp : p ∉ o.take (pre.length + 1) := fun hm => by
        obtain ⟨j, hj⟩ := List.mem_iff_getElem?.mp hm
        rw [List.getElem?_take] at hj
        split at hj
        · have := nd_ix ond hj b5
          omega
        · cases hj
      have hpq : p ≠ q := fun e => hp (e ▸ hq)
      have hs : sortT [p, q] = [(tieOf p q c).a, (tieOf p q c).b] := by
        rw [sort2]
        unfold tieOf
        by_cases hh : p ≤ q
        · rw [if_pos hh, if_pos hh]
        · rw [if_neg hh, if_neg hh]
      have hcc : (tieOf p q c).c = c := (tieOf_lt hpq).2.2
      have et : T3.mk (tieOf p q c).a (tieOf p q c).b c = tieOf p q c := PySem.W.T3.same rfl rfl hcc.symm
      have hlt : ts.length < 16777216 := by
        have := hg.len
        rw [List.length_take] at this
        omega
      refine ⟨([d7], ts ++ [tieOf p q c]), ?_, ⟨d7, rfl⟩, ?_, fun x hx => ?_⟩
      · show (m_law_take [d'] y >>= _) = _
        rw [bind_ok a1]
        show (m_law_take [d4] 3 >>= _) = _
        rw [bind_ok a2]
        show (m_law_take [d5] y >>= _) = _
        rw [bind_ok a3]
        show (opt (atI [q1, y - 1, 0, (if (y - 1) - q2 > 0 then (y - 1) - q2 else 0), q3] kd) >>= _) = _
        rw [opt_b a4, opt_b a5, opt_b a6, hs]
        rw [opt_b (show L2.atI [(tieOf p q c).a, (tieOf p q c).b] (0 : Int) = some (tieOf p q c).a from rfl), opt_b (show L2.atI [(tieOf p q c).a, (tieOf p q c).b] (1 : Int) = some (tieOf p q c).b from rfl)]
        show (m_law_number [d6] far >>= _) = _
        rw [bind_ok a7]
        show (appL ts (T3.mk (tieOf p q c).a (tieOf p q c).b c) >>= _) = _
        rw [bind_ok (appL_ok hlt)]
        show (Except.ok ([d7], ts ++ [T3.mk (tieOf p q c).a (tieOf p q c).b c]) : M _) = _
        rw [et]
      · have e5 : o.take ((pre ++ [y]).length + 1) = o.take (pre.length + 1) ++ [p] := by
          rw [List.length_append]
          show o.take (pre.length + 1 + 1) = _
          rw [List.take_succ]
          have e6 : y.toNat = pre.length + 1 := by omega
          rw [e6] at b5
          rw [b5]
          rfl
        rw [e5]
        exact Grown.more q p c hg hq hp
      · rcases List.mem_append.mp hx with hx | hx
        · exact hc x hx
        · rw [List.mem_singleton.mp hx, hcc]
          exact b7
  obtain ⟨ds, ts⟩ := st
  obtain ⟨⟨d8, hd⟩, hg, hc⟩ := h4
  have hd : ds = [d8] := hd
  subst hd
  have hg : Grown (o.take ((rangeL 1 (1 + r)).length + 1)) ts := hg
  have hc : ∀ x ∈ ts, -far ≤ x.c ∧ x.c ≤ far := hc
  rw [rangeL_length] at hg
  have e5 : o.take ((1 + r - 1).toNat + 1) = o := List.take_of_length_le (by omega)
  rw [e5] at hg
  show ∃ t d', (loopN _ (rangeL 1 (1 + r)) ([d3], []) >>= _) = _ ∧ _
  rw [bind_ok e4, chk_b (show okR (1 + r) from ⟨by omega, by omega⟩)]
  obtain ⟨ws, d9, e6, w1, w2⟩ := nums_ok far f0 f1 (items := rangeL 0 (1 + r)) (by rw [rangeL_length]; omega) d8
  show ∃ t d', (compS _ (rangeL 0 (1 + r)) [d8] >>= _) = _ ∧ _
  rw [bind_ok e6]
  rw [rangeL_length] at w1
  have hlen : ((1 + r).toNat : Int) = 1 + r := by omega
  refine ⟨(ws, sortT ts), d9, rfl, ⟨⟨o, ts, hg, ?_, rfl⟩⟩, ?_, w2, fun x hx => hc x (sortT_mem.mp hx)⟩
  · show o.Perm (rangeL 0 (ws.length : Int))
    have : (ws.length : Int) = 1 + r := by omega
    rw [this]
    exact po
  · show (ws.length : Int) ≤ most
    omega

theorem cut10 (ns : List Int) (k : Nat) : (cutL ns none (some (k : Int))).length ≤ ns.length := by
  unfold cutL
  rw [List.length_take, List.length_drop]
  omega
theorem at4 (k : Int) (h : 0 ≤ k) (h4 : k < 4) : ∃ x, L2.atI [(10 : Int), 10, 10, 40] k = some x ∧ (x = 10 ∨ x = 40) := by
  obtain ⟨x, e1, e2⟩ := atI_some (xs := [(10 : Int), 10, 10, 40]) h (by simpa using h4)
  refine ⟨x, e1, ?_⟩
  have hm := List.mem_of_getElem? e2
  simp only [List.mem_cons, List.not_mem_nil, or_false] at hm
  omega

theorem comp2 {i c : Type} {f : i → Unit → M (Option c × Unit)} {a b : i} {va vb : c} (ha : f a () = .ok (some va, ())) (hb : f b () = .ok (some vb, ())) : compS f [a, b] () = .ok ([va, vb], ()) := by
  unfold compS
  rw [chk_b (show [a, b].length < 16777216 by show 2 < 16777216; decide)]
  show (nox (f a ()) >>= _) = _
  rw [ha]
  show (nox (f b ()) >>= _) = _
  rw [hb]
  rfl
theorem s_no : ¬ ("own" : Str) = ("number" : Str) := by decide +kernel
theorem s_nt : ¬ ("tie" : Str) = ("number" : Str) := by decide +kernel
theorem s_ns : ¬ ("so" : Str) = ("number" : Str) := by decide +kernel
theorem s_nm : ¬ ("more" : Str) = ("number" : Str) := by decide +kernel
theorem s_to : ¬ ("tie" : Str) = ("own" : Str) := by decide +kernel
theorem s_so : ¬ ("so" : Str) = ("own" : Str) := by decide +kernel
theorem s_mo : ¬ ("more" : Str) = ("own" : Str) := by decide +kernel
theorem s_st : ¬ ("so" : Str) = ("tie" : Str) := by decide +kernel
theorem s_mt : ¬ ("more" : Str) = ("tie" : Str) := by decide +kernel
theorem s_ms : ¬ ("more" : Str) = ("so" : Str) := by decide +kernel
section
variable {own tie : Int} {so more : List Int}
def OpW (w : Str) : Prop := w = "plus" ∨ w = "less" ∨ w = "times" ∨ w = "most" ∨ w = "least"
theorem op_sum {d : Nat} {w : Str} {a b : Sm} {va vb : Int} (hw : OpW w) (ha : m_sum_at d a own tie so more = .ok va) (hb : m_sum_at d b own tie so more = .ok vb) :
    m_sum_at (d + 1) (.two w a b) own tie so more = (if w = ("plus" : Str) then .ok (va + vb) else if w = ("less" : Str) then .ok (va - vb) else if w = ("times" : Str) then (chk (CMulW va vb) >>= fun _ => .ok (va * vb)) else if w = ("most" : Str) then .ok (if vb > va then vb else va) else .ok (if vb < va then vb else va)) := by
  have h1 : ¬ w = ("number" : Str) ∧ ¬ w = ("own" : Str) ∧ ¬ w = ("tie" : Str) ∧ ¬ w = ("so" : Str) ∧ ¬ w = ("more" : Str) := by
    rcases hw with e | e | e | e | e <;> subst e <;> decide +kernel
  unfold m_sum_at
  rw [if_neg (show ¬ Sm.word (.two w a b) = _ from h1.1), if_neg (show ¬ Sm.word (.two w a b) = _ from h1.2.1), if_neg (show ¬ Sm.word (.two w a b) = _ from h1.2.2.1), if_neg (show ¬ Sm.word (.two w a b) = _ from h1.2.2.2.1), if_neg (show ¬ Sm.word (.two w a b) = _ from h1.2.2.2.2)]
  rw [opt_b (show Sm.two? (.two w a b) = some (a, b) from rfl)]
  rw [bind_ok (comp2 (va := va) (vb := vb) (by show (m_sum_at d a own tie so more >>= _) = _; rw [bind_ok ha]) (by show (m_sum_at d b own tie so more >>= _) = _; rw [bind_ok hb]))]
  rfl
theorem op_val {d : Nat} {w : Str} {a b : Sm} {va vb : Int} {kn : List (Str × IL)} (hw : OpW w) (ha : m_law_value d a kn = .ok va) (hb : m_law_value d b kn = .ok vb) :
    m_law_value (d + 1) (.two w a b) kn = (if w = ("times" : Str) then (chk (CMulW va vb) >>= fun _ => .ok (va * vb)) else if w ∈ ([("plus" : Str), "less"] : List Str) then (opt (atI [(1 : Int), -1] (if (decide (w = ("less" : Str))) = true then (1 : Int) else 0)) >>= fun y => chk (CMulW y vb) >>= fun _ => .ok (va + y * vb)) else (opt (atI (sortT [va, vb]) (if (decide (w = ("most" : Str))) = true then (1 : Int) else 0)) >>= fun y => .ok y)) := by
  have h1 : ¬ w = ("number" : Str) ∧ ¬ w ∈ ([("own" : Str), "tie"] : List Str) ∧ ¬ w ∈ ([("so" : Str), "more"] : List Str) := by
    rcases hw with e | e | e | e | e <;> subst e <;> decide +kernel
  unfold m_law_value
  rw [if_neg (show ¬ Sm.word (.two w a b) = _ from h1.1), if_neg (show ¬ Sm.word (.two w a b) ∈ ([("own" : Str), "tie"] : List Str) from h1.2.1), if_neg (show ¬ Sm.word (.two w a b) ∈ ([("so" : Str), "more"] : List Str) from h1.2.2)]
  rw [opt_b (show Sm.two? (.two w a b) = some (a, b) from rfl)]
  rw [bind_ok (comp2 (va := va) (vb := vb) (by show (m_law_value d a kn >>= _) = _; rw [bind_ok ha]) (by show (m_law_value d b kn >>= _) = _; rw [bind_ok hb]))]
  rfl
end
theorem words_at {ws : List Str} (h : ∀ w ∈ ws, OpW w) {k : Int} (k0 : 0 ≤ k) (k1 : k < ws.length) : ∃ w, L2.atI ws k = some w ∧ OpW w := by
  obtain ⟨w, e1, e2⟩ := atI_some k0 k1
  exact ⟨w, e1, h w (List.mem_of_getElem? e2)⟩

/-! ### drawn sums and rules -/
def LeafIn (ws : List Str) (many : Int) (x : Sm) : Prop := (∃ n : Int, x = .num "number" n ∧ n.natAbs < 100) ∨ (x = .nam "own" ∧ ("own" : Str) ∈ ws) ∨ (x = .nam "tie" ∧ ("tie" : Str) ∈ ws) ∨ (∃ k : Int, x = .num "so" k ∧ (0 ≤ k ∧ k < many) ∧ ("so" : Str) ∈ ws) ∨ ∃ k : Int, x = .num "more" k ∧ (0 ≤ k ∧ k < many) ∧ ("more" : Str) ∈ ws
/-- the bits of a leaf's worth -/
def lb (S M : Nat) (x : Sm) : Nat := if x.word = ("so" : Str) then S else if x.word = ("more" : Str) then M else 100
def Op4 (w : Str) : Prop := w = "plus" ∨ w = "less" ∨ w = "most" ∨ w = "least"
def Good2 (ws : List Str) (many : Int) : Nat → Sm → Prop
  | 0, _ => False
  | d + 1, x => LeafIn ws many x ∨ (∃ a b, x = .two "times" a b ∧ LeafIn ws many a ∧ LeafIn ws many b ∧ ∀ S M, lb S M a + lb S M b ≤ S + M + 200) ∨ ∃ w a b, x = .two w a b ∧ Op4 w ∧ Good2 ws many d a ∧ Good2 ws many d b
def four : List Str := ["own", "tie", "so", "more"]
theorem LeafIn.sub {ws ws' : List Str} {many : Int} {x : Sm} (h : LeafIn ws many x) (s : ∀ w ∈ ws, w ∈ ws') : LeafIn ws' many x := by
  rcases h with h | ⟨e, h⟩ | ⟨e, h⟩ | ⟨k, e, hk, h⟩ | ⟨k, e, hk, h⟩
  · exact .inl h
  · exact .inr (.inl ⟨e, s _ h⟩)
  · exact .inr (.inr (.inl ⟨e, s _ h⟩))
  · exact .inr (.inr (.inr (.inl ⟨k, e, hk, s _ h⟩)))
  · exact .inr (.inr (.inr (.inr ⟨k, e, hk, s _ h⟩)))
theorem leaf_ok2 (ws : List Str) (hw : ∀ w ∈ ws, w ∈ four) (hl : ws.length ≤ 4) (many : Int) (m1 : 1 ≤ many) (m2 : many ≤ 3) (d : Int) : ∃ x d', m_law_leaf [d] ws many = .ok (x, [d']) ∧ LeafIn ws many x := by
  obtain ⟨w, d1, e1, w0, w5⟩ := take_small d (1 + (ws.length : Int)) (by omega) (by omega)
  unfold m_law_leaf
  rw [bind_ok e1]
  show ∃ x d', (if w = 0 then _ else _) = _ ∧ _
  by_cases h0 : w = 0
  · rw [if_pos h0]
    obtain ⟨n, d2, e2, n0, n1⟩ := take_small d1 19 (by decide) (by decide)
    show ∃ x d', (m_law_take [d1] 19 >>= _) = _ ∧ _
    rw [bind_ok e2]
    exact ⟨_, d2, rfl, .inl ⟨n - 9, rfl, by omega⟩⟩
  · rw [if_neg h0]
    obtain ⟨z, a1, a2⟩ := atI_some (xs := ws) (j := w - 1) (by omega) (by omega)
    have hz := List.mem_of_getElem? a2
    rw [opt_b a1]
    by_cases hs : z ∈ ([("so" : Str), "more"] : List Str)
    · show ∃ x d', (if z ∈ ([("so" : Str), "more"] : List Str) then _ else _) = _ ∧ _
      rw [if_pos hs, opt_b a1]
      obtain ⟨k, d2, e2, k0, k1⟩ := take_small d1 many (by omega) (by omega)
      show ∃ x d', (m_law_take [d1] many >>= _) = _ ∧ _
      rw [bind_ok e2]
      rcases List.mem_cons.mp hs with e | e
      · subst e
        exact ⟨_, d2, rfl, .inr (.inr (.inr (.inl ⟨k, rfl, ⟨k0, k1⟩, hz⟩)))⟩
      · have e := List.mem_singleton.mp e
        subst e
        exact ⟨_, d2, rfl, .inr (.inr (.inr (.inr ⟨k, rfl, ⟨k0, k1⟩, hz⟩)))⟩
    · show ∃ x d', (if z ∈ ([("so" : Str), "more"] : List Str) then _ else _) = _ ∧ _
      rw [if_neg hs, opt_b a1]
      refine ⟨_, d1, rfl, ?_⟩
      have h4 := hw z hz
      unfold four at h4
      simp only [List.mem_cons, List.not_mem_nil, or_false] at h4 hs
      rcases h4 with e | e | e | e
      · subst e; exact .inr (.inl ⟨rfl, hz⟩)
      · subst e; exact .inr (.inr (.inl ⟨rfl, hz⟩))
      · exact (hs (.inl e)).elim
      · exact (hs (.inr e)).elim
theorem lb_le {ws : List Str} {many : Int} {x : Sm} (h : LeafIn ws many x) : (x.word = "so" ∧ ("so" : Str) ∈ ws) ∨ (x.word = "more" ∧ ("more" : Str) ∈ ws) ∨ (¬ x.word = ("so" : Str) ∧ ¬ x.word = ("more" : Str)) := by
  rcases h with ⟨n, e, _⟩ | ⟨e, h⟩ | ⟨e, h⟩ | ⟨k, e, hk, h⟩ | ⟨k, e, hk, h⟩
  · subst e; exact .inr (.inr ⟨fun z => s_ns z.symm, fun z => s_nm z.symm⟩)
  · subst e; exact .inr (.inr ⟨fun z => s_so z.symm, fun z => s_mo z.symm⟩)
  · subst e; exact .inr (.inr ⟨fun z => s_st z.symm, fun z => s_mt z.symm⟩)
  · subst e; exact .inl ⟨rfl, h⟩
  · subst e; exact .inr (.inl ⟨rfl, h⟩)
theorem pair_lb {ls rs : List Str} {many many' : Int} {a b : Sm} (ha : LeafIn ls many a) (hb : LeafIn rs many' b) (h1 : ¬ (("so" : Str) ∈ ls ∧ ("so" : Str) ∈ rs)) (h2 : ¬ (("more" : Str) ∈ ls ∧ ("more" : Str) ∈ rs)) (S M : Nat) : lb S M a + lb S M b ≤ S + M + 200 := by
  unfold lb
  rcases lb_le ha with ⟨e, m⟩ | ⟨e, m⟩ | ⟨e, e'⟩ <;> rcases lb_le hb with ⟨f, n⟩ | ⟨f, n⟩ | ⟨f, f'⟩
  · exact (h1 ⟨m, n⟩).elim
  · rw [if_pos e, f, if_neg s_ms, if_pos rfl]; omega
  · rw [if_pos e, if_neg f, if_neg f']; omega
  · rw [e, if_neg s_ms, if_pos rfl, if_pos f]; omega
  · exact (h2 ⟨m, n⟩).elim
  · rw [e, if_neg s_ms, if_pos rfl, if_neg f, if_neg f']; omega
  · rw [if_neg e, if_neg e', if_pos f]; omega
  · rw [if_neg e, if_neg e', f, if_neg s_ms, if_pos rfl]; omega
  · rw [if_neg e, if_neg e', if_neg f, if_neg f']; omega
theorem ops4 : ∀ w ∈ [("plus" : Str), "less", "most", "least", "plus"], Op4 w := by
  intro w hw
  unfold Op4
  simp only [List.mem_cons, List.not_mem_nil, or_false] at hw
  rcases hw with e | e | e | e | e <;> simp [e]
structure WsOk (ws : List Str) : Prop where
  four : ∀ w ∈ ws, w ∈ four
  len : ws.length ≤ 4
  cut : ∃ l r, cutL ws (some (-(1 : Int))) none = [r] ∧ cutL ws none (some (1 : Int)) = [l] ∧ l ∈ ws ∧ r ∈ ws ∧ ¬ (l = "so" ∧ r = "so") ∧ ¬ (l = "more" ∧ r = "more")
theorem sum_ok (ws : List Str) (W : WsOk ws) (many : Int) (m1 : 1 ≤ many) (m2 : many ≤ 3) (times : Bool) : ∀ (p n : Nat) (d : Int), p < n → ∃ x d', m_law_sum n [d] ws many (p : Int) times = .ok (x, [d']) ∧ Good2 ws many (p + 1) x
  | _, 0, _, h => absurd h (Nat.not_lt_zero _)
  | 0, n + 1, d, _ => by
    obtain ⟨w, d1, e1, w0, w9⟩ := take_small d 7 (by decide) (by decide)
    obtain ⟨x, d2, e2, hx⟩ := leaf_ok2 ws W.four W.len many m1 m2 d1
    unfold m_law_sum
    rw [bind_ok e1, if_pos (show ((0 : Nat) : Int) = 0 from rfl)]
    show ∃ x d', (m_law_leaf [d1] ws many >>= _) = _ ∧ _
    rw [bind_ok e2]
    exact ⟨x, d2, rfl, .inl hx⟩
  | p + 1, n + 1, d, h => by
    obtain ⟨w, d1, e1, w0, w9⟩ := take_small d 7 (by decide) (by decide)
    unfold m_law_sum
    rw [bind_ok e1, if_neg (by omega)]
    show ∃ x d', (if w < 2 then _ else _) = _ ∧ _
    by_cases hw : w < 2
    · rw [if_pos hw]
      obtain ⟨x, d2, e2, hx⟩ := leaf_ok2 ws W.four W.len many m1 m2 d1
      show ∃ x d', (m_law_leaf [d1] ws many >>= _) = _ ∧ _
      rw [bind_ok e2]
      exact ⟨x, d2, rfl, .inl hx⟩
    · rw [if_neg hw]
      obtain ⟨a, d2, e2, ha⟩ := sum_ok ws W many m1 m2 times p n d1 (by omega)
      obtain ⟨o, e3, e3'⟩ := atI_some (xs := [("plus" : Str), "less", "most", "least", "plus"]) (j := w - 2) (by omega) (by show w - 2 < ((5 : Nat) : Int); omega)
      have ho := ops4 o (List.mem_of_getElem? e3')
      obtain ⟨b, d3, e4, hb⟩ := sum_ok ws W many m1 m2 times p n d2 (by omega)
      have plain : ∃ x d', (m_law_sum n [d1] ws many (((p + 1 : Nat) : Int) - 1) times >>= fun r184 => opt (atI ([("plus" : Str), ("less" : Str), ("most" : Str), ("least" : Str), ("plus" : Str)]) (w - (2 : Int))) >>= fun y208 => m_law_sum n r184.2 ws many (((p + 1 : Nat) : Int) - 1) times >>= fun r213 => (.ok ((Sm.two (T3.mk y208 r184.1 r213.1).a (T3.mk y208 r184.1 r213.1).b (T3.mk y208 r184.1 r213.1).c), r213.2) : M _)) = .ok (x, [d']) ∧ Good2 ws many (p + 1 + 1) x := by
        rw [show (((p + 1 : Nat) : Int) - 1) = (p : Int) by omega]
        rw [bind_ok e2, opt_b e3]
        show ∃ x d', (m_law_sum n [d2] ws many (p : Int) times >>= _) = _ ∧ _
        rw [bind_ok e4]
        exact ⟨_, d3, rfl, .inr (.inr ⟨o, a, b, rfl, ho, ha, hb⟩)⟩
      show ∃ x d', (if w = 6 then _ else _) = _ ∧ _
      by_cases h6 : w = 6
      · rw [if_pos h6]
        cases times with
        | false =>
          rw [if_neg Bool.false_ne_true]
          exact plain
        | true =>
          rw [if_pos rfl]
          obtain ⟨l, r, c1, c2, hl, hr, n1, n2⟩ := W.cut
          have sub1 : ∀ (y : Str), y ∈ ws → ∀ z ∈ [y], z ∈ ws := fun y hy z hz => by rw [List.mem_singleton.mp hz]; exact hy
          obtain ⟨x1, f1, g1, q1⟩ := leaf_ok2 [r] (fun z hz => W.four z (sub1 r hr z hz)) (by simp) many m1 m2 d1
          obtain ⟨x2, f2, g2, q2⟩ := leaf_ok2 [] (fun _ h => nomatch h) (by simp) 1 (by omega) (by omega) f1
          obtain ⟨x3, f3, g3, q3⟩ := leaf_ok2 [l] (fun z hz => W.four z (sub1 l hl z hz)) (by simp) many m1 m2 f2
          obtain ⟨j, f4, g4, j0, j2⟩ := take_small f3 2 (by decide) (by decide)
          rw [c1, c2]
          show ∃ x d', (m_law_leaf [d1] [r] many >>= _) = _ ∧ _
          rw [bind_ok g1]
          show ∃ x d', (m_law_leaf [f1] [] 1 >>= _) = _ ∧ _
          rw [bind_ok g2]
          show ∃ x d', (m_law_leaf [f2] [l] many >>= _) = _ ∧ _
          rw [bind_ok g3]
          show ∃ x d', (m_law_take [f3] 2 >>= _) = _ ∧ _
          rw [bind_ok g4]
          have q2' : LeafIn [] many x2 := by
            rcases q2 with z | ⟨_, z⟩ | ⟨_, z⟩ | ⟨_, _, _, z⟩ | ⟨_, _, _, z⟩
            · exact .inl z
            all_goals cases z
          have hj : j = 0 ∨ j = 1 := by omega
          rcases hj with e | e
          · subst e
            refine ⟨_, f4, rfl, .inr (.inl ⟨x2, x1, rfl, q2'.sub (fun _ h => nomatch h), q1.sub (sub1 r hr), pair_lb q2' q1 (fun z => absurd z.1 List.not_mem_nil) (fun z => absurd z.1 List.not_mem_nil)⟩)⟩
          · subst e
            refine ⟨_, f4, rfl, .inr (.inl ⟨x3, x1, rfl, q3.sub (sub1 l hl), q1.sub (sub1 r hr), pair_lb q3 q1 (fun z => n1 ⟨(List.mem_singleton.mp z.1).symm, (List.mem_singleton.mp z.2).symm⟩) (fun z => n2 ⟨(List.mem_singleton.mp z.1).symm, (List.mem_singleton.mp z.2).symm⟩)⟩)⟩
      · rw [if_neg h6]
        exact plain

abbrev Rule := T4 (List Sm) (List Sm) (List Sm) Sm
def wsB : List Str := ["own"]
def wsO : List Str := ["more", "own", "tie"]
def wsJ : List Str := ["so", "own", "more"]
def wsT : List Str := ["so", "own"]
theorem okB : WsOk wsB := ⟨by decide +kernel, by decide +kernel, "own", "own", rfl, rfl, by decide +kernel, by decide +kernel, by decide +kernel, by decide +kernel⟩
theorem okO : WsOk wsO := ⟨by decide +kernel, by decide +kernel, "more", "tie", rfl, rfl, by decide +kernel, by decide +kernel, by decide +kernel, by decide +kernel⟩
theorem okJ : WsOk wsJ := ⟨by decide +kernel, by decide +kernel, "so", "more", rfl, rfl, by decide +kernel, by decide +kernel, by decide +kernel, by decide +kernel⟩
theorem okT : WsOk wsT := ⟨by decide +kernel, by decide +kernel, "so", "own", rfl, rfl, by decide +kernel, by decide +kernel, by decide +kernel, by decide +kernel⟩
structure RuleOk (r : Rule) (many : Int) : Prop where
  m1 : 1 ≤ many
  m2 : many ≤ 3
  la : (r.a.length : Int) = many
  lb : (r.b.length : Int) = many
  lc : (r.c.length : Int) = many
  ga : ∀ x ∈ r.a, Good2 wsB many 3 x
  gb : ∀ x ∈ r.b, Good2 wsO many 3 x
  gc : ∀ x ∈ r.c, Good2 wsJ many 3 x
  gd : Good2 wsT many 3 r.d
theorem sums_ok (ws : List Str) (W : WsOk ws) (many : Int) (m1 : 1 ≤ many) (m2 : many ≤ 3) (times : Bool) (d : Int) :
    ∃ xs d', compS (fun (y74 : Int) (st92 : (List Int)) =>
      m_law_sum 5 st92 ws many (2 : Int) times >>= fun r98 =>
      .ok (some r98.1, r98.2)) (rangeL 0 many) [d] = .ok (xs, [d']) ∧ (xs.length : Int) = many ∧ ∀ x ∈ xs, Good2 ws many 3 x := by
  obtain ⟨acc, st, e, ⟨d', hd⟩, h3, h4⟩ := compS_run (f := fun (y74 : Int) (st92 : (List Int)) =>
      m_law_sum 5 st92 ws many (2 : Int) times >>= fun r98 =>
      .ok (some r98.1, r98.2)) (all := rangeL 0 many) (by rw [rangeL_length]; omega)
    (fun pre acc st => (∃ d', st = [d']) ∧ acc.length = pre.length ∧ ∀ x ∈ acc, Good2 ws many 3 x) (x := [d]) ⟨⟨d, rfl⟩, rfl, fun _ h => nomatch h⟩ fun pre y post acc st _ ⟨⟨d', hd⟩, h3, h4⟩ => by
      subst hd
      obtain ⟨x, d2, e, hx⟩ := sum_ok ws W many m1 m2 times 2 5 d' (by decide)
      refine ⟨some x, [d2], by rw [bind_ok (show m_law_sum 5 [d'] ws many (2 : Int) times = _ from e)], ⟨d2, rfl⟩, by rw [List.length_append, List.length_append, h3, List.length_singleton, List.length_singleton], fun z hz => ?_⟩
      rcases List.mem_append.mp hz with hz | hz
      · exact h4 z hz
      · rw [List.mem_singleton.mp hz]; exact hx
  subst hd
  rw [rangeL_length] at h3
  exact ⟨acc, d', e, by omega, h4⟩
theorem loop3 {i s : Type} {f : i → s → M s} {a b c : i} {x x1 x2 x3 : s} (h1 : f a x = .ok x1) (h2 : f b x1 = .ok x2) (h3 : f c x2 = .ok x3) : loopN f [a, b, c] x = .ok x3 := by
  show (f a x >>= _) = _
  rw [bind_ok h1]
  show (f b x1 >>= _) = _
  rw [bind_ok h2]
  show (f c x2 >>= _) = _
  rw [bind_ok h3]
  rfl
theorem may_leaf {ws ws' : List Str} {many : Int} (s : ∀ w ∈ ws, w ∈ ws') (n : Nat) {x : Sm} (h : LeafIn ws many x) : m_may_stand (n + 1) x ⟨ws'⟩ many = .ok true := by
  unfold m_may_stand
  rcases h with ⟨k, e, _⟩ | ⟨e, h⟩ | ⟨e, h⟩ | ⟨k, e, hk, h⟩ | ⟨k, e, hk, h⟩
  · subst e
    rw [if_pos (show Sm.word (.num "number" k) = ("number" : Str) from rfl)]
  · subst e
    rw [if_neg (show ¬ Sm.word (.nam "own") = ("number" : Str) from s_no), if_pos (show Sm.word (.nam "own") ∈ ([("own" : Str), "tie"] : List Str) from List.mem_cons_self)]
    exact congrArg Except.ok (decide_eq_true (s _ h))
  · subst e
    rw [if_neg (show ¬ Sm.word (.nam "tie") = ("number" : Str) from s_nt), if_pos (show Sm.word (.nam "tie") ∈ ([("own" : Str), "tie"] : List Str) from List.mem_cons_of_mem _ List.mem_cons_self)]
    exact congrArg Except.ok (decide_eq_true (s _ h))
  · subst e
    rw [if_neg (show ¬ Sm.word (.num "so" k) = ("number" : Str) from s_ns), if_neg (show ¬ Sm.word (.num "so" k) ∈ ([("own" : Str), "tie"] : List Str) from fun z => by
      rcases List.mem_cons.mp z with z | z
      · exact s_so z
      · exact s_st (List.mem_singleton.mp z)), if_pos (show Sm.word (.num "so" k) ∈ ([("so" : Str), "more"] : List Str) from List.mem_cons_self), if_pos (show Sm.word (.num "so" k) ∈ ws' from s _ h)]
    rw [opt_b (show Sm.int? (.num "so" k) = some k from rfl), if_pos hk.1]
    exact congrArg Except.ok (decide_eq_true hk.2)
  · subst e
    rw [if_neg (show ¬ Sm.word (.num "more" k) = ("number" : Str) from s_nm), if_neg (show ¬ Sm.word (.num "more" k) ∈ ([("own" : Str), "tie"] : List Str) from fun z => by
      rcases List.mem_cons.mp z with z | z
      · exact s_mo z
      · exact s_mt (List.mem_singleton.mp z)), if_pos (show Sm.word (.num "more" k) ∈ ([("so" : Str), "more"] : List Str) from List.mem_cons_of_mem _ List.mem_cons_self), if_pos (show Sm.word (.num "more" k) ∈ ws' from s _ h)]
    rw [opt_b (show Sm.int? (.num "more" k) = some k from rfl), if_pos hk.1]
    exact congrArg Except.ok (decide_eq_true hk.2)
theorem may_two {ws' : List Str} {many : Int} {n : Nat} {w : Str} {a b : Sm} (hw : OpW w) (ha : m_may_stand n a ⟨ws'⟩ many = .ok true) (hb : m_may_stand n b ⟨ws'⟩ many = .ok true) : m_may_stand (n + 1) (.two w a b) ⟨ws'⟩ many = .ok true := by
  have h1 : ¬ w = ("number" : Str) ∧ ¬ w ∈ ([("own" : Str), "tie"] : List Str) ∧ ¬ w ∈ ([("so" : Str), "more"] : List Str) := by
    rcases hw with e | e | e | e | e <;> subst e <;> decide +kernel
  unfold m_may_stand
  rw [if_neg (show ¬ Sm.word (.two w a b) = _ from h1.1), if_neg (show ¬ Sm.word (.two w a b) ∈ ([("own" : Str), "tie"] : List Str) from h1.2.1), if_neg (show ¬ Sm.word (.two w a b) ∈ ([("so" : Str), "more"] : List Str) from h1.2.2)]
  rw [opt_b (show Sm.two? (.two w a b) = some (a, b) from rfl)]
  show (m_may_stand n a ⟨ws'⟩ many >>= _) = _
  rw [bind_ok ha, if_pos rfl, opt_b (show Sm.two? (.two w a b) = some (a, b) from rfl)]
  show (m_may_stand n b ⟨ws'⟩ many >>= _) = _
  rw [bind_ok hb]
theorem op4w {w : Str} (h : Op4 w) : OpW w := by
  rcases h with e | e | e | e
  · exact .inl e
  · exact .inr (.inl e)
  · exact .inr (.inr (.inr (.inl e)))
  · exact .inr (.inr (.inr (.inr e)))
theorem may_ok {ws ws' : List Str} {many : Int} (s : ∀ w ∈ ws, w ∈ ws') : ∀ (n d : Nat) (x : Sm), d + 1 ≤ n → Good2 ws many d x → m_may_stand n x ⟨ws'⟩ many = .ok true
  | 0, _, _, h, _ => absurd h (by omega)
  | _, 0, _, _, h => h.elim
  | n + 1, d + 1, x, hn, h => by
    rcases h with h | ⟨a, b, e, ha, hb, _⟩ | ⟨w, a, b, e, hw, ha, hb⟩
    · exact may_leaf s n h
    · subst e
      obtain ⟨n', rfl⟩ : ∃ n', n = n' + 1 := ⟨n - 1, by omega⟩
      exact may_two (.inr (.inr (.inl rfl))) (may_leaf s n' ha) (may_leaf s n' hb)
    · subst e
      exact may_two (op4w hw) (may_ok s n d a (by omega) ha) (may_ok s n d b (by omega) hb)
theorem is_rule_ok {r : Rule} {many : Int} (R : RuleOk r many) : m_is_rule r = .ok true := by
  have h1 := R.la
  have h2 := R.lb
  have h3 := R.lc
  have m1 := R.m1
  have m2 := R.m2
  unfold m_is_rule
  rw [if_pos (by omega), if_pos (by omega), if_neg (by omega), if_neg (by omega), h1]
  have one : ∀ (xs : List Sm) (ws ws' : List Str), xs.length < 16777216 → (∀ x ∈ xs, Good2 ws many 3 x) → (∀ w ∈ ws, w ∈ ws') →
      (compS (fun (y123 : Sm) (st140 : Unit) =>
        m_may_stand 60 y123 ⟨ws'⟩ many >>= fun r146 =>
        if r146 = true then (
        .ok (none, ()))
        else (
        .ok (some y123, ()))) xs () >>= fun q164 =>
        if q164.1 ≠ ([] : List Sm) then (
        .ok (.rt false))
        else (
        (.ok (.nx ()) : M (Fl Unit Bool)))) = .ok (.nx ()) := fun xs ws ws' hl hg hs => by
    rw [bind_ok (compS_pure (fun _ => none) hl fun y hy => by rw [bind_ok (may_ok hs 60 3 y (by decide) (hg y hy)), if_pos rfl])]
    rw [if_neg (by
      intro z
      refine z ?_
      show List.filterMap _ _ = []
      rw [List.filterMap_eq_nil_iff]
      exact fun _ _ => rfl)]
  rw [bind_ok (loopM_all fun y hy => by
    simp only [List.mem_cons, List.not_mem_nil, or_false] at hy
    rcases hy with e | e | e
    · subst e; exact one r.a wsB _ (by omega) R.ga (by decide +kernel)
    · subst e; exact one r.b wsO _ (by omega) R.gb (by decide +kernel)
    · subst e; exact one r.c wsJ _ (by omega) R.gc (by decide +kernel))]
  show (m_may_stand 60 r.d ⟨[("own" : Str), "so"]⟩ many >>= _) = _
  rw [bind_ok (may_ok (ws := wsT) (by decide +kernel) 60 3 r.d (by decide) R.gd)]

/-! ### sums told of rows -/
structure Ev (ws : List Str) (many own tie : Int) (so more : List Int) (kn : List (Str × IL)) (S M : Nat) : Prop where
  ho : own.natAbs < 2 ^ 100
  ht : tie.natAbs < 2 ^ 100
  hs : ("so" : Str) ∈ ws → (so.length : Int) = many ∧ ∀ y ∈ so, y.natAbs < 2 ^ S
  hm : ("more" : Str) ∈ ws → (more.length : Int) = many ∧ ∀ y ∈ more, y.natAbs < 2 ^ M
  ko : ("own" : Str) ∈ ws → dGet kn ("own" : Str) = some (.i own)
  kt : ("tie" : Str) ∈ ws → dGet kn ("tie" : Str) = some (.i tie)
  ks : ("so" : Str) ∈ ws → dGet kn ("so" : Str) = some (.l so)
  km : ("more" : Str) ∈ ws → dGet kn ("more" : Str) = some (.l more)
  S1 : 1 ≤ S
  M1 : 1 ≤ M
  SM : S + M ≤ 900000
section
variable {ws : List Str} {many own tie : Int} {so more : List Int} {kn : List (Str × IL)} {S M : Nat}
theorem leaf_eval2 (E : Ev ws many own tie so more kn S M) (n : Nat) {x : Sm} (h : LeafIn ws many x) : ∃ v, m_sum_at (n + 1) x own tie so more = .ok v ∧ m_law_value (n + 1) x kn = .ok v ∧ v.natAbs < 2 ^ lb S M x := by
  rcases h with ⟨k, e, hk⟩ | ⟨e, h⟩ | ⟨e, h⟩ | ⟨k, e, hk, h⟩ | ⟨k, e, hk, h⟩
  · subst e
    refine ⟨k, ?_, ?_, ?_⟩
    · unfold m_sum_at
      rw [if_pos (show Sm.word (.num "number" k) = ("number" : Str) from rfl)]
      rfl
    · unfold m_law_value
      rw [if_pos (show Sm.word (.num "number" k) = ("number" : Str) from rfl)]
      rfl
    · unfold lb
      rw [if_neg (show ¬ Sm.word (.num "number" k) = ("so" : Str) from fun z => s_ns z.symm), if_neg (show ¬ Sm.word (.num "number" k) = ("more" : Str) from fun z => s_nm z.symm)]
      exact Nat.lt_of_lt_of_le hk (by decide)
  · subst e
    refine ⟨own, ?_, ?_, ?_⟩
    · unfold m_sum_at
      rw [if_neg (show ¬ Sm.word (.nam "own") = ("number" : Str) from s_no), if_pos (show Sm.word (.nam "own") = ("own" : Str) from rfl)]
    · unfold m_law_value
      rw [if_neg (show ¬ Sm.word (.nam "own") = ("number" : Str) from s_no), if_pos (show Sm.word (.nam "own") ∈ ([("own" : Str), "tie"] : List Str) from List.mem_cons_self)]
      rw [opt_b (show dGet kn (Sm.word (.nam "own")) = some (.i own) from E.ko h)]
      rfl
    · unfold lb
      rw [if_neg (show ¬ Sm.word (.nam "own") = ("so" : Str) from fun z => s_so z.symm), if_neg (show ¬ Sm.word (.nam "own") = ("more" : Str) from fun z => s_mo z.symm)]
      exact E.ho
  · subst e
    refine ⟨tie, ?_, ?_, ?_⟩
    · unfold m_sum_at
      rw [if_neg (show ¬ Sm.word (.nam "tie") = ("number" : Str) from s_nt), if_neg (show ¬ Sm.word (.nam "tie") = ("own" : Str) from s_to), if_pos (show Sm.word (.nam "tie") = ("tie" : Str) from rfl)]
    · unfold m_law_value
      rw [if_neg (show ¬ Sm.word (.nam "tie") = ("number" : Str) from s_nt), if_pos (show Sm.word (.nam "tie") ∈ ([("own" : Str), "tie"] : List Str) from List.mem_cons_of_mem _ List.mem_cons_self)]
      rw [opt_b (show dGet kn (Sm.word (.nam "tie")) = some (.i tie) from E.kt h)]
      rfl
    · unfold lb
      rw [if_neg (show ¬ Sm.word (.nam "tie") = ("so" : Str) from fun z => s_st z.symm), if_neg (show ¬ Sm.word (.nam "tie") = ("more" : Str) from fun z => s_mt z.symm)]
      exact E.ht
  · subst e
    obtain ⟨h1, h2⟩ := E.hs h
    obtain ⟨v, e1, e2⟩ := atI_some (xs := so) (j := k) hk.1 (by omega)
    refine ⟨v, ?_, ?_, ?_⟩
    · unfold m_sum_at
      rw [if_neg (show ¬ Sm.word (.num "so" k) = ("number" : Str) from s_ns), if_neg (show ¬ Sm.word (.num "so" k) = ("own" : Str) from s_so), if_neg (show ¬ Sm.word (.num "so" k) = ("tie" : Str) from s_st), if_pos (show Sm.word (.num "so" k) = ("so" : Str) from rfl)]
      show (opt (atI so k) >>= _) = _
      rw [opt_b e1]
    · unfold m_law_value
      rw [if_neg (show ¬ Sm.word (.num "so" k) = ("number" : Str) from s_ns), if_neg (show ¬ Sm.word (.num "so" k) ∈ ([("own" : Str), "tie"] : List Str) from fun z => by
        rcases List.mem_cons.mp z with z | z
        · exact s_so z
        · exact s_st (List.mem_singleton.mp z)), if_pos (show Sm.word (.num "so" k) ∈ ([("so" : Str), "more"] : List Str) from List.mem_cons_self)]
      rw [opt_b (show dGet kn (Sm.word (.num "so" k)) = some (.l so) from E.ks h)]
      show (opt (atI so k) >>= _) = _
      rw [opt_b e1]
    · unfold lb
      rw [if_pos (show Sm.word (.num "so" k) = ("so" : Str) from rfl)]
      exact h2 v (List.mem_of_getElem? e2)
  · subst e
    obtain ⟨h1, h2⟩ := E.hm h
    obtain ⟨v, e1, e2⟩ := atI_some (xs := more) (j := k) hk.1 (by omega)
    refine ⟨v, ?_, ?_, ?_⟩
    · unfold m_sum_at
      rw [if_neg (show ¬ Sm.word (.num "more" k) = ("number" : Str) from s_nm), if_neg (show ¬ Sm.word (.num "more" k) = ("own" : Str) from s_mo), if_neg (show ¬ Sm.word (.num "more" k) = ("tie" : Str) from s_mt), if_neg (show ¬ Sm.word (.num "more" k) = ("so" : Str) from s_ms), if_pos (show Sm.word (.num "more" k) = ("more" : Str) from rfl)]
      show (opt (atI more k) >>= _) = _
      rw [opt_b e1]
    · unfold m_law_value
      rw [if_neg (show ¬ Sm.word (.num "more" k) = ("number" : Str) from s_nm), if_neg (show ¬ Sm.word (.num "more" k) ∈ ([("own" : Str), "tie"] : List Str) from fun z => by
        rcases List.mem_cons.mp z with z | z
        · exact s_mo z
        · exact s_mt (List.mem_singleton.mp z)), if_pos (show Sm.word (.num "more" k) ∈ ([("so" : Str), "more"] : List Str) from List.mem_cons_of_mem _ List.mem_cons_self)]
      rw [opt_b (show dGet kn (Sm.word (.num "more" k)) = some (.l more) from E.km h)]
      show (opt (atI more k) >>= _) = _
      rw [opt_b e1]
    · unfold lb
      rw [if_neg (show ¬ Sm.word (.num "more" k) = ("so" : Str) from s_ms), if_pos (show Sm.word (.num "more" k) = ("more" : Str) from rfl)]
      exact h2 v (List.mem_of_getElem? e2)
theorem lb_pos (E : Ev ws many own tie so more kn S M) (x : Sm) : 0 < lb S M x := by
  have := E.S1
  have := E.M1
  unfold lb
  split
  · omega
  · split <;> omega
theorem lb_sum (x : Sm) : lb S M x ≤ S + M + 200 := by
  unfold lb
  split
  · omega
  · split <;> omega
theorem pow_lt {v a b : Nat} (h : v < 2 ^ a) (l : a ≤ b) : v < 2 ^ b := Nat.lt_of_lt_of_le h (Nat.pow_le_pow_right (by decide) l)
theorem eval2 (E : Ev ws many own tie so more kn S M) : ∀ (n d : Nat) (x : Sm), d + 1 ≤ n → d ≤ 10 → Good2 ws many d x → ∃ v, m_sum_at n x own tie so more = .ok v ∧ m_law_value n x kn = .ok v ∧ v.natAbs < 2 ^ (S + M + 200 + d)
  | 0, _, _, h, _, _ => absurd h (by omega)
  | _, 0, _, _, _, h => h.elim
  | n + 1, d + 1, x, hn, hd, h => by
    have hSM := E.SM
    rcases h with h | ⟨a, b, e, ha, hb, hlb⟩ | ⟨w, a, b, e, hw, ha, hb⟩
    · obtain ⟨v, e1, e2, e3⟩ := leaf_eval2 E n h
      have := lb_sum (S := S) (M := M) x
      exact ⟨v, e1, e2, pow_lt e3 (by omega)⟩
    · subst e
      obtain ⟨n', rfl⟩ : ∃ n', n = n' + 1 := ⟨n - 1, by omega⟩
      obtain ⟨va, a1, a2, a3⟩ := leaf_eval2 E n' ha
      obtain ⟨vb, b1, b2, b3⟩ := leaf_eval2 E n' hb
      have hl := hlb S M
      have cm : CMulW va vb := wide_mul a3 b3 (lb_pos E a) (lb_pos E b) (by omega)
      refine ⟨va * vb, ?_, ?_, ?_⟩
      · rw [op_sum (.inr (.inr (.inl rfl))) a1 b1, if_neg (by decide +kernel), if_neg (by decide +kernel), if_pos rfl, chk_b cm]
      · rw [op_val (.inr (.inr (.inl rfl))) a2 b2, if_pos rfl, chk_b cm]
      · rw [Int.natAbs_mul]
        have := Nat.mul_lt_mul'' a3 b3
        rw [← Nat.pow_add] at this
        exact pow_lt this (by omega)
    · subst e
      obtain ⟨va, a1, a2, a3⟩ := eval2 E n d a (by omega) (by omega) ha
      obtain ⟨vb, b1, b2, b3⟩ := eval2 E n d b (by omega) (by omega) hb
      have c1 : CMulW 1 vb := wide_mul (i := 1) (a := 1) (by decide) b3 (by decide) (by omega) (by omega)
      have c2 : CMulW (-1) vb := wide_mul (i := -1) (a := 1) (by decide) b3 (by decide) (by omega) (by omega)
      have hp : 2 ^ (S + M + 200 + (d + 1)) = 2 ^ (S + M + 200 + d) + 2 ^ (S + M + 200 + d) := by rw [← Nat.add_assoc, Nat.pow_succ]; omega
      rw [op_sum (op4w hw) a1 b1, op_val (op4w hw) a2 b2, hp]
      generalize 2 ^ (S + M + 200 + d) = X at a3 b3 ⊢
      rcases hw with e | e | e | e
      · subst e
        refine ⟨va + vb, by rw [if_pos rfl], ?_, by omega⟩
        rw [if_neg (by decide +kernel), if_pos (by decide +kernel)]
        rw [show (if (decide (("plus" : Str) = ("less" : Str))) = true then (1 : Int) else 0) = 0 from if_neg (by decide +kernel)]
        rw [opt_b (show L2.atI [(1 : Int), -1] 0 = some 1 from rfl), chk_b c1, Int.one_mul]
      · subst e
        refine ⟨va - vb, by rw [if_neg (by decide +kernel), if_pos rfl], ?_, by omega⟩
        rw [if_neg (by decide +kernel), if_pos (by decide +kernel)]
        rw [show (if (decide (("less" : Str) = ("less" : Str))) = true then (1 : Int) else 0) = 1 from if_pos (by decide +kernel)]
        rw [opt_b (show L2.atI [(1 : Int), -1] 1 = some (-1) from rfl), chk_b c2]
        exact congrArg Except.ok (by omega)
      · subst e
        refine ⟨if vb > va then vb else va, by rw [if_neg (by decide +kernel), if_neg (by decide +kernel), if_neg (by decide +kernel), if_pos rfl], ?_, by split <;> omega⟩
        rw [if_neg (by decide +kernel), if_neg (by decide +kernel)]
        rw [show (if (decide (("most" : Str) = ("most" : Str))) = true then (1 : Int) else 0) = 1 from if_pos (by decide +kernel), sort2]
        by_cases hle : va ≤ vb
        · rw [if_pos hle]
          show Except.ok vb = _
          split
          · rfl
          · exact congrArg Except.ok (by omega)
        · rw [if_neg hle, if_neg (by omega)]
          rfl
      · subst e
        refine ⟨if vb < va then vb else va, by rw [if_neg (by decide +kernel), if_neg (by decide +kernel), if_neg (by decide +kernel), if_neg (by decide +kernel)], ?_, by split <;> omega⟩
        rw [if_neg (by decide +kernel), if_neg (by decide +kernel)]
        rw [show (if (decide (("least" : Str) = ("most" : Str))) = true then (1 : Int) else 0) = 0 from if_neg (by decide +kernel), sort2]
        by_cases hle : va ≤ vb
        · rw [if_pos hle, if_neg (by omega)]
          rfl
        · rw [if_neg hle, if_pos (by omega)]
          rfl
theorem evalL (E : Ev ws many own tie so more kn S M) {xs : List Sm} (hg : ∀ x ∈ xs, Good2 ws many 3 x) (hl : xs.length < 16777216) :
    ∃ vs : List Int, (∀ f : Sm → Unit → PG.M (Option Int × Unit), (∀ y v, m_sum_at 12 y own tie so more = .ok v → f y () = .ok (some v, ())) → compS f xs () = .ok (vs, ())) ∧
      (∀ f : Sm → Unit → PG.M (Option Int × Unit), (∀ y v, m_law_value 12 y kn = .ok v → f y () = .ok (some v, ())) → compS f xs () = .ok (vs, ())) ∧ vs.length = xs.length ∧ ∀ v ∈ vs, v.natAbs < 2 ^ (S + M + 203) := by
  have hv : ∀ y, ∃ v : Int, y ∈ xs → m_sum_at 12 y own tie so more = .ok v ∧ m_law_value 12 y kn = .ok v ∧ v.natAbs < 2 ^ (S + M + 200 + 3) := fun y => by
    by_cases hy : y ∈ xs
    · obtain ⟨v, h⟩ := eval2 E 12 3 y (by decide) (by decide) (hg y hy)
      exact ⟨v, fun _ => h⟩
    · exact ⟨0, fun z => (hy z).elim⟩
  obtain ⟨val, hval⟩ := Classical.skolem.mp hv
  refine ⟨xs.map val, fun f hf => ?_, fun f hf => ?_, List.length_map _, fun v hv => ?_⟩
  · rw [compS_pure (fun y => some (val y)) hl fun y hy => hf y _ (hval y hy).1, List.filterMap_eq_map']
  · rw [compS_pure (fun y => some (val y)) hl fun y hy => hf y _ (hval y hy).2.1, List.filterMap_eq_map']
  · obtain ⟨y, hy, rfl⟩ := List.mem_map.mp hv
    exact (hval y hy).2.2
end

theorem dPut_new {κ β : Type} [DecidableEq κ] {xs : List (κ × β)} {k : κ} {y : β} (h : ∀ p ∈ xs, p.1 ≠ k) : dPut xs k y = xs ++ [(k, y)] := by
  unfold dPut
  rw [if_neg]
  intro z
  obtain ⟨p, hp, e⟩ := List.any_eq_true.mp z
  exact h p hp (of_decide_eq_true e)

theorem merge_newS {β : Type} : ∀ {xs ac : List (Str × β)}, ((ac ++ xs).map (·.1)).Nodup → xs.foldl (fun acc p => dPut acc p.1 p.2) ac = ac ++ xs
  | [], ac, _ => by simp
  | x :: xs, ac, h => by
    rw [List.foldl_cons]
    have hn : ∀ p ∈ ac, p.1 ≠ x.1 := fun p hp e => by
      rw [List.map_append, List.map_cons, List.nodup_append] at h
      exact h.2.2 p.1 (List.mem_map.mpr ⟨p, hp, rfl⟩) x.1 List.mem_cons_self e
    rw [dPut_new hn, merge_newS (by rw [List.append_assoc]; exact h), List.append_assoc]
    rfl

def lenOf (ts : List Tie) : List ((Int × Int) × Int) := ts.flatMap fun t => [((t.a, t.b), t.c), ((t.b, t.a), t.c)]
theorem lenOf_mem {ts : List Tie} {p : (Int × Int) × Int} : p ∈ lenOf ts ↔ ∃ t ∈ ts, p = ((t.a, t.b), t.c) ∨ p = ((t.b, t.a), t.c) := by
  unfold lenOf
  simp [List.mem_flatMap]
theorem lenOf_len : ∀ ts : List Tie, (lenOf ts).length = 2 * ts.length
  | [] => rfl
  | t :: ts => by
    show (lenOf ts).length + 1 + 1 = 2 * (ts.length + 1)
    rw [lenOf_len ts]
    omega
theorem grown_pairs {ps : List Int} {ts : List Tie} (g : Grown ps ts) : (ts.map fun x => (x.a, x.b)).Nodup := by
  induction g with
  | one p => exact List.nodup_nil
  | @more ps ts q p c g hq hp ih =>
    rw [List.map_append, List.nodup_append]
    refine ⟨ih, by simp, fun x hx y hy e => ?_⟩
    obtain ⟨t, ht, rfl⟩ := List.mem_map.mp hx
    rw [List.map_singleton, List.mem_singleton] at hy
    have hpq : p ≠ q := fun z => hp (z ▸ hq)
    obtain ⟨h1, h2, _⟩ := tieOf_lt (c := c) hpq
    obtain ⟨i1, i2, _⟩ := g.in t ht
    rw [hy] at e
    injection e with e1 e2
    rcases h2 with ⟨a, b⟩ | ⟨a, b⟩
    · rw [e1, a] at i1; exact hp i1
    · rw [e2, b] at i2; exact hp i2
theorem tree_pairs {t : Tr} (h : TreeOk t) : (t.2.map fun x => (x.a, x.b)).Nodup := by
  obtain ⟨o, ts, g, _, e⟩ := h.ex
  rw [e]
  exact ((sortT_perm ts).map _).nodup_iff.mpr (grown_pairs g)
theorem lengths_ok (t : Tr) (ht : TreeOk t) (hn : t.1.length ≤ 1000000) : m_lengths_of t = .ok (lenOf t.2) := by
  have hlen := ht.len
  have nd := tree_pairs ht
  obtain ⟨st, e1, e2⟩ := loopN_run (f := fun (y19 : (T3 Int Int Int)) (st30 : (List ((Int × Int) × Int))) =>
    putD st30 ((y19.a, y19.b).1, (y19.a, y19.b).2) y19.c >>= fun z64 =>
    putD z64 ((y19.b, y19.a).1, (y19.b, y19.a).2) y19.c >>= fun z82 =>
    (.ok z82 : M _)) (all := t.2) (x := []) (fun pre st => st = lenOf pre) rfl fun pre y post st ea es => by
      subst es
      have hm : ∀ x ∈ pre, x ∈ t.2 := fun x hx => by rw [ea]; exact List.mem_append_left _ hx
      have hy := ht.tie y (by rw [ea]; simp)
      have hlp : (lenOf pre).length = 2 * pre.length := lenOf_len pre
      have hpl : pre.length + 1 ≤ t.2.length := by
        rw [ea, List.length_append, List.length_cons]
        omega
      have n1 : ∀ x ∈ pre, ¬ (x.a = y.a ∧ x.b = y.b) := fun x hx ⟨z1, z2⟩ => by
        rw [ea, List.map_append, List.map_cons, List.nodup_append] at nd
        exact nd.2.2 (x.a, x.b) (List.mem_map.mpr ⟨x, hx, rfl⟩) (y.a, y.b) List.mem_cons_self (by rw [z1, z2])
      have k1 : ∀ p ∈ lenOf pre, p.1 ≠ (y.a, y.b) := fun p hp e => by
        obtain ⟨x, hx, h | h⟩ := lenOf_mem.mp hp
        · rw [h] at e; injection e with z1 z2; exact n1 x hx ⟨z1, z2⟩
        · rw [h] at e
          injection e with z1 z2
          have := ht.tie x (hm x hx)
          have z1 : x.b = y.a := z1
          have z2 : x.a = y.b := z2
          omega
      have k2 : ∀ p ∈ lenOf pre ++ [((y.a, y.b), y.c)], p.1 ≠ (y.b, y.a) := fun p hp e => by
        rcases List.mem_append.mp hp with hp | hp
        · obtain ⟨x, hx, h | h⟩ := lenOf_mem.mp hp
          · rw [h] at e
            injection e with z1 z2
            have := ht.tie x (hm x hx)
            have z1 : x.a = y.b := z1
            have z2 : x.b = y.a := z2
            omega
          · rw [h] at e; injection e with z1 z2; exact n1 x hx ⟨z2, z1⟩
        · rw [List.mem_singleton.mp hp] at e
          injection e with z1 z2
          have z1 : y.a = y.b := z1
          omega
      refine ⟨_, ?_, rfl⟩
      show (putD (lenOf pre) (y.a, y.b) y.c >>= fun z64 => putD z64 (y.b, y.a) y.c >>= fun z82 => _) = _
      rw [bind_ok (show putD (lenOf pre) (y.a, y.b) y.c = .ok (lenOf pre ++ [((y.a, y.b), y.c)]) by unfold putD; rw [if_pos (by omega), dPut_new k1])]
      rw [bind_ok (show putD (lenOf pre ++ [((y.a, y.b), y.c)]) (y.b, y.a) y.c = .ok ((lenOf pre ++ [((y.a, y.b), y.c)]) ++ [((y.b, y.a), y.c)]) by unfold putD; rw [if_pos (by rw [List.length_append, List.length_singleton]; omega), dPut_new k2])]
      unfold lenOf
      rw [List.flatMap_append, List.append_assoc]
      rfl
  unfold m_lengths_of
  rw [bind_ok e1, e2]
theorem keys_perm : ∀ ts : List Tie, ((lenOf ts).map (·.1)).Perm (ts.map (fun t => (t.a, t.b)) ++ ts.map (fun t => (t.b, t.a)))
  | [] => .nil
  | t :: ts => by
    show ((t.a, t.b) :: (t.b, t.a) :: (lenOf ts).map (·.1)).Perm ((t.a, t.b) :: (ts.map (fun t => (t.a, t.b)) ++ (t.b, t.a) :: ts.map (fun t => (t.b, t.a))))
    refine .cons _ (((keys_perm ts).cons _).trans List.perm_middle.symm)

/-! ### neighbours -/
def other (p : Int) (t : Tie) : Option Int := if t.a = p then some t.b else if t.b = p then some t.a else none
/-- the neighbours of a place, rising -/
def nearOf (ties : List Tie) (p : Int) : List Int := sortT (ties.filterMap (other p))
def nearAll (n : Nat) (ties : List Tie) : List (List Int) := (List.range n).map fun (i : Nat) => nearOf ties (i : Int)
theorem addAt_ok {fs : List (List Int)} {x y : Int} {l : List Int} (h0 : 0 ≤ x) (h : fs[x.toNat]? = some l) (hl : l.length < 16777216) : addAt fs x y = .ok (fs.set x.toNat (l ++ [y])) := by
  have h1 := (List.getElem?_eq_some_iff.mp h).1
  unfold addAt
  rw [ixN_nat h0 (by omega)]
  show (match fs[x.toNat]? with
    | some x_1 => appL x_1 y >>= fun y => .ok (fs.set x.toNat y)
    | none => bad) = _
  rw [h]
  show (appL l y >>= fun y => (.ok (fs.set x.toNat y) : M _)) = _
  rw [bind_ok (appL_ok hl)]
theorem tied_places_ok (n : Int) (ties : List Tie) (h0 : 0 ≤ n) (h1 : n ≤ 1000000) (hl : ties.length < 16777216) (hv : ∀ t ∈ ties, 0 ≤ t.a ∧ t.a < t.b ∧ t.b < n) : m_tied_places n ties = .ok (nearAll n.toNat ties) := by
  unfold m_tied_places
  rw [chk_b (show okR n from ⟨by omega, h1⟩)]
  obtain ⟨fs, e, h⟩ := loopN_run (f := fun (t : T3 Int Int Int) (fs : List (List Int)) => addAt fs t.a t.b >>= fun f1 => addAt f1 t.b t.a) (all := sortT ties) (x := List.replicate n.toNat [])
    (fun pre fs => fs = (List.range n.toNat).map fun (i : Nat) => pre.filterMap (other (i : Int))) (by
      refine List.ext_getElem? fun i => ?_
      rw [List.getElem?_replicate, List.getElem?_map]
      by_cases hi : i < n.toNat
      · rw [if_pos hi, List.getElem?_range hi]; rfl
      · rw [if_neg hi, List.getElem?_eq_none (by simpa using hi)]; rfl) fun pre t post fs ea hf => by
      subst hf
      have mt : t ∈ ties := sortT_mem.mp (by rw [ea]; simp)
      obtain ⟨a0, ab, bn⟩ := hv t mt
      have plen : pre.length < 16777216 := by
        have := congrArg List.length ea
        rw [sortT_len, List.length_append, List.length_cons] at this
        omega
      have g1 : ((List.range n.toNat).map fun (i : Nat) => pre.filterMap (other (i : Int)))[t.a.toNat]? = some (pre.filterMap (other t.a)) := by
        rw [List.getElem?_map, List.getElem?_range (by omega)]
        show some (pre.filterMap (other ((t.a.toNat : Nat) : Int))) = _
        rw [Int.toNat_of_nonneg a0]
      have l1 : (pre.filterMap (other t.a)).length < 16777216 := Nat.lt_of_le_of_lt (List.length_filterMap_le _ _) plen
      have g2 : (((List.range n.toNat).map fun (i : Nat) => pre.filterMap (other (i : Int))).set t.a.toNat (pre.filterMap (other t.a) ++ [t.b]))[t.b.toNat]? = some (pre.filterMap (other t.b)) := by
        rw [List.getElem?_set_ne (by omega), List.getElem?_map, List.getElem?_range (by omega)]
        show some (pre.filterMap (other ((t.b.toNat : Nat) : Int))) = _
        rw [Int.toNat_of_nonneg (by omega)]
      have l2 : (pre.filterMap (other t.b)).length < 16777216 := Nat.lt_of_le_of_lt (List.length_filterMap_le _ _) plen
      refine ⟨_, by rw [bind_ok (addAt_ok a0 g1 l1)]; exact addAt_ok (by omega) g2 l2, ?_⟩
      refine List.ext_getElem? fun i => ?_
      rw [List.getElem?_map]
      by_cases hi : i < n.toNat
      · rw [List.getElem?_range hi]
        show _ = some ((pre ++ [t]).filterMap (other (i : Int)))
        rw [List.filterMap_append]
        by_cases hb : t.b.toNat = i
        · subst hb
          rw [List.getElem?_set_self (by simpa using hi)]
          have e1 : other ((t.b.toNat : Nat) : Int) t = some t.a := by
            unfold other
            rw [if_neg (by omega), if_pos (by omega)]
          have e2 : ((t.b.toNat : Nat) : Int) = t.b := Int.toNat_of_nonneg (by omega)
          rw [List.filterMap_cons, e1, List.filterMap_nil, e2]
        · rw [List.getElem?_set_ne hb]
          by_cases ha : t.a.toNat = i
          · subst ha
            rw [List.getElem?_set_self (by simpa using hi)]
            have e1 : other ((t.a.toNat : Nat) : Int) t = some t.b := by
              unfold other
              rw [if_pos (by omega)]
            have e2 : ((t.a.toNat : Nat) : Int) = t.a := Int.toNat_of_nonneg a0
            rw [List.filterMap_cons, e1, List.filterMap_nil, e2]
          · rw [List.getElem?_set_ne ha, List.getElem?_map, List.getElem?_range hi]
            have e1 : other (i : Int) t = none := by
              unfold other
              rw [if_neg (by omega), if_neg (by omega)]
            rw [List.filterMap_cons, e1, List.filterMap_nil, List.append_nil]
            rfl
      · have z : (List.range n.toNat)[i]? = none := List.getElem?_eq_none (by simpa using hi)
        rw [z]
        show _ = none
        refine List.getElem?_eq_none ?_
        rw [List.length_set, List.length_set, List.length_map, List.length_range]
        omega
  rw [bind_ok e, h]
  refine congrArg Except.ok ?_
  unfold nearAll
  rw [List.map_map]
  refine List.map_congr_left fun i _ => ?_
  show sortT ((sortT ties).filterMap (other (i : Int))) = nearOf ties (i : Int)
  exact sortT_eq ((sortT_perm ties).filterMap _)
theorem nearAll_at {n : Nat} {ties : List Tie} {p : Int} (h0 : 0 ≤ p) (h : p < n) : L2.atI (nearAll n ties) p = some (nearOf ties p) := by
  refine atI_of h0 ?_
  unfold nearAll
  rw [List.getElem?_map, List.getElem?_range (by omega)]
  show some (nearOf ties ((p.toNat : Nat) : Int)) = _
  rw [Int.toNat_of_nonneg h0]

theorem whL_run {s r : Type} {b : s → M (Ws s r)} (P : s → Prop) (μ : s → Nat) (Qf : s → Prop) (step : ∀ x, P x → (∃ x', b x = .ok (.go x') ∧ P x' ∧ μ x' < μ x) ∨ (∃ x', b x = .ok (.stop x') ∧ Qf x')) : ∀ (n : Nat) (x : s), P x → μ x < n → ∃ x', whL b n x = .ok (.nx x') ∧ Qf x'
  | 0, x, _, h => absurd h (Nat.not_lt_zero _)
  | n + 1, x, p, h => by
    rcases step x p with ⟨x', e, p', l⟩ | ⟨x', e, q⟩
    · obtain ⟨x2, e2, q2⟩ := whL_run P μ Qf step n x' p' (by omega)
      refine ⟨x2, ?_, q2⟩
      show (b x >>= _) = _
      rw [bind_ok e]
      exact e2
    · refine ⟨x', ?_, q⟩
      show (b x >>= _) = _
      rw [bind_ok e]
theorem nd_sub_len {a : Type} [DecidableEq a] : ∀ {l m : List a}, l.Nodup → (∀ x ∈ l, x ∈ m) → l.length ≤ m.length
  | [], _, _, _ => Nat.zero_le _
  | x :: l, m, nd, h => by
    have hx := h x List.mem_cons_self
    obtain ⟨n1, n2⟩ := List.nodup_cons.mp nd
    have := nd_sub_len (l := l) (m := m.erase x) n2 fun y hy => (List.mem_erase_of_ne fun e => n1 (by rw [← e]; exact hy)).mpr (h y (List.mem_cons_of_mem _ hy))
    rw [List.length_erase_of_mem hx] at this
    have hp := List.length_pos_of_mem hx
    rw [List.length_cons]
    omega
theorem nearOf_mem {ts : List Tie} {x y : Int} (h : ∀ t ∈ ts, t.a < t.b) : y ∈ nearOf ts x ↔ ∃ t ∈ ts, (t.a = x ∧ t.b = y) ∨ (t.b = x ∧ t.a = y) := by
  unfold nearOf
  rw [sortT_mem, List.mem_filterMap]
  constructor
  · rintro ⟨t, ht, e⟩
    unfold other at e
    by_cases ha : t.a = x
    · rw [if_pos ha] at e
      exact ⟨t, ht, .inl ⟨ha, Option.some.inj e⟩⟩
    · rw [if_neg ha] at e
      by_cases hb : t.b = x
      · rw [if_pos hb] at e
        exact ⟨t, ht, .inr ⟨hb, Option.some.inj e⟩⟩
      · rw [if_neg hb] at e; cases e
  · rintro ⟨t, ht, ⟨ha, hb⟩ | ⟨hb, ha⟩⟩
    · refine ⟨t, ht, ?_⟩
      unfold other
      rw [if_pos ha, hb]
    · refine ⟨t, ht, ?_⟩
      have := h t ht
      unfold other
      rw [if_neg (by omega), if_pos hb, ha]
/-- what holds of one place and goes over ties holds of all -/
theorem grown_all {ps : List Int} {ts : List Tie} (g : Grown ps ts) (S : Int → Prop) (hS : ∀ t ∈ ts, S t.a ↔ S t.b) : (∃ x ∈ ps, S x) → ∀ x ∈ ps, S x := by
  induction g with
  | one p =>
    rintro ⟨x, hx, h⟩ y hy
    rw [List.mem_singleton.mp hx] at h
    rw [List.mem_singleton.mp hy]
    exact h
  | @more ps ts q p c g hq hp ih =>
    have ih := ih fun t ht => hS t (List.mem_append_left _ ht)
    have hpq : p ≠ q := fun z => hp (z ▸ hq)
    have hl := hS (tieOf p q c) (by simp)
    obtain ⟨_, h2, _⟩ := tieOf_lt (c := c) hpq
    have hpq2 : S p ↔ S q := by
      rcases h2 with ⟨a, b⟩ | ⟨a, b⟩
      · rw [a, b] at hl; exact hl
      · rw [a, b] at hl; exact hl.symm
    rintro ⟨x, hx, h⟩
    have hall : ∀ y ∈ ps, S y := by
      rcases List.mem_append.mp hx with hx | hx
      · exact ih ⟨x, hx, h⟩
      · rw [List.mem_singleton.mp hx] at h
        exact ih ⟨q, hq, hpq2.mp h⟩
    intro y hy
    rcases List.mem_append.mp hy with hy | hy
    · exact hall y hy
    · rw [List.mem_singleton.mp hy]
      exact hpq2.mpr (hall q hq)
theorem tree_all {t : Tr} (ht : TreeOk t) (S : Int → Prop) (hS : ∀ x ∈ t.2, S x.a ↔ S x.b) (x : Int) (x0 : 0 ≤ x) (x1 : x < (t.1.length : Int)) (h : S x) : ∀ y, 0 ≤ y → y < (t.1.length : Int) → S y := by
  obtain ⟨ps, ts, g, p, e⟩ := ht.ex
  rw [e] at hS
  intro y y0 y1
  exact grown_all g S (fun t ht => hS t (sortT_mem.mpr ht)) ⟨x, p.mem_iff.mpr (rangeL_mem.mpr ⟨x0, x1⟩), h⟩ y (p.mem_iff.mpr (rangeL_mem.mpr ⟨y0, y1⟩))
theorem nearAll_len (n : Nat) (ts : List Tie) : (nearAll n ts).length = n := by unfold nearAll; simp

/-! ### which places lie in a branch: m a b x is 1 where x hangs at b seen from a -/
def nbr (ts : List Tie) (b : Int) : List Int := ts.filterMap (other b)
theorem other_tie {p q c b : Int} (h : p ≠ q) : other b (tieOf p q c) = if b = p then some q else if b = q then some p else none := by
  unfold other tieOf
  by_cases hl : p ≤ q
  · rw [if_pos hl]
    show (if p = b then some q else if q = b then some p else none) = _
    by_cases h1 : b = p
    · rw [if_pos h1.symm, if_pos h1]
    · rw [if_neg (fun z => h1 z.symm), if_neg h1]
      by_cases h2 : b = q
      · rw [if_pos h2.symm, if_pos h2]
      · rw [if_neg (fun z => h2 z.symm), if_neg h2]
  · rw [if_neg hl]
    show (if q = b then some p else if p = b then some q else none) = _
    by_cases h1 : b = p
    · rw [if_neg (by omega), if_pos h1.symm, if_pos h1]
    · rw [if_neg h1]
      by_cases h2 : b = q
      · rw [if_pos h2.symm, if_pos h2]
      · rw [if_neg (fun z => h2 z.symm), if_neg (fun z => h1 z.symm), if_neg h2]
theorem nbr_snoc (ts : List Tie) {p q c b : Int} (h : p ≠ q) : nbr (ts ++ [tieOf p q c]) b = nbr ts b ++ (if b = p then [q] else if b = q then [p] else []) := by
  unfold nbr
  rw [List.filterMap_append, List.filterMap_cons, other_tie h, List.filterMap_nil]
  by_cases h1 : b = p
  · rw [if_pos h1, if_pos h1]
  · rw [if_neg h1, if_neg h1]
    by_cases h2 : b = q
    · rw [if_pos h2, if_pos h2]
    · rw [if_neg h2, if_neg h2]
theorem nbr_in {ps : List Int} {ts : List Tie} (g : Grown ps ts) {a b : Int} (h : a ∈ nbr ts b) : a ∈ ps ∧ b ∈ ps ∧ a ≠ b := by
  unfold nbr at h
  obtain ⟨t, ht, e⟩ := List.mem_filterMap.mp h
  obtain ⟨h1, h2, h3⟩ := g.in t ht
  unfold other at e
  by_cases ha : t.a = b
  · rw [if_pos ha] at e
    have e := Option.some.inj e
    rw [← e, ← ha]
    exact ⟨h2, h1, by omega⟩
  · rw [if_neg ha] at e
    by_cases hb : t.b = b
    · rw [if_pos hb] at e
      have e := Option.some.inj e
      rw [← e, ← hb]
      exact ⟨h1, h2, by omega⟩
    · rw [if_neg hb] at e; cases e
def sumF (l : List Int) (f : Int → Nat) : Nat := (l.map f).sum
theorem sumF_app (l m : List Int) (f : Int → Nat) : sumF (l ++ m) f = sumF l f + sumF m f := by unfold sumF; rw [List.map_append, List.sum_append]
theorem sumF_congr {l : List Int} {f g : Int → Nat} (h : ∀ x ∈ l, f x = g x) : sumF l f = sumF l g := by unfold sumF; rw [List.map_congr_left h]
theorem sumF_one (x : Int) (f : Int → Nat) : sumF [x] f = f x := by unfold sumF; simp
theorem sumF_nil (f : Int → Nat) : sumF [] f = 0 := rfl
def ind (x y : Int) : Nat := if x = y then 1 else 0
structure Wt (ps : List Int) (ts : List Tie) (m : Int → Int → Int → Nat) : Prop where
  one : ∀ a b x, a ∈ nbr ts b → x ∈ ps → m a b x = ind x b + sumF ((nbr ts b).filter fun c => decide (c ≠ a)) (fun c => m b c x)
  all : ∀ q x, q ∈ ps → x ∈ ps → ind x q + sumF (nbr ts q) (fun c => m q c x) = 1
def stepM (m : Int → Int → Int → Nat) (p q : Int) (a b x : Int) : Nat :=
  if a = q ∧ b = p then (if x = p then 1 else 0) else if a = p ∧ b = q then (if x = p then 0 else 1) else if x = p then m a b q else m a b x
theorem stepM_old {m : Int → Int → Int → Nat} {p q a b x : Int} (h1 : ¬ (a = q ∧ b = p)) (h2 : ¬ (a = p ∧ b = q)) : stepM m p q a b x = m a b (if x = p then q else x) := by
  unfold stepM
  rw [if_neg h1, if_neg h2]
  split <;> rfl
theorem weights {ps : List Int} {ts : List Tie} (g : Grown ps ts) : ∃ m, Wt ps ts m := by
  induction g with
  | one p =>
    refine ⟨fun _ _ _ => 0, ⟨fun a b x h => (nomatch (show a ∈ ([] : List Int) from h)), fun q x hq hx => ?_⟩⟩
    rw [List.mem_singleton.mp hq, List.mem_singleton.mp hx]
    show ind p p + 0 = 1
    unfold ind
    rw [if_pos rfl]
  | @more ps ts q p c g hq hp ih =>
    obtain ⟨m, M⟩ := ih
    have hpq : p ≠ q := fun z => hp (z ▸ hq)
    have nin : ∀ {a b}, a ∈ nbr ts b → a ≠ p ∧ b ≠ p := fun {a b} h => by
      obtain ⟨h1, h2, _⟩ := nbr_in g h
      exact ⟨fun z => hp (z ▸ h1), fun z => hp (z ▸ h2)⟩
    have np : nbr ts p = [] := List.eq_nil_iff_forall_not_mem.mpr fun a h => (nin h).2 rfl
    -- where x stands: the new place stands where its neighbour stands
    have back : ∀ x, x ∈ ps ++ [p] → (if x = p then q else x) ∈ ps := fun x hx => by
      by_cases hxp : x = p
      · rw [if_pos hxp]; exact hq
      · rw [if_neg hxp]
        rcases List.mem_append.mp hx with z | z
        · exact z
        · exact (hxp (List.mem_singleton.mp z)).elim
    have oldS : ∀ (l : List Int) (b x : Int), b ≠ p → (∀ c ∈ l, c ≠ p) → sumF l (fun c => stepM m p q b c x) = sumF l (fun c => m b c (if x = p then q else x)) := fun l b x hb hl =>
      sumF_congr fun c hc => stepM_old (fun z => hl c hc z.2) (fun z => hb z.1)
    have indx : ∀ x b : Int, b ≠ p → b ≠ q → ind x b = ind (if x = p then q else x) b := fun x b hb hbq => by
      by_cases hxp : x = p
      · rw [if_pos hxp, hxp]
        unfold ind
        rw [if_neg (fun z => hb z.symm), if_neg (fun z => hbq z.symm)]
      · rw [if_neg hxp]
    have memf : ∀ (l : List Int) (a : Int), (∀ c ∈ l, c ≠ p) → ∀ c ∈ l.filter (fun c => decide (c ≠ a)), c ≠ p := fun l a hl c hc => hl c (List.mem_filter.mp hc).1
    have lp : ∀ b, ∀ c ∈ nbr ts b, c ≠ p := fun b c hc => (nin hc).1
    refine ⟨stepM m p q, ⟨fun a b x ha hx => ?_, fun q0 x hq0 hx => ?_⟩⟩
    · rw [nbr_snoc ts hpq] at ha ⊢
      have hb' := back x hx
      by_cases hbp : b = p
      · subst hbp
        rw [np, if_pos rfl] at ha ⊢
        have ha : a = q := List.mem_singleton.mp ha
        subst ha
        have : ([a].filter fun c => decide (c ≠ a)) = [] := by simp
        show stepM m b a a b x = ind x b + sumF (([] ++ [a]).filter fun c => decide (c ≠ a)) _
        rw [List.nil_append, this, sumF_nil]
        unfold stepM ind
        rw [if_pos ⟨rfl, rfl⟩]
        rfl
      · rw [if_neg hbp] at ha ⊢
        by_cases hbq : b = q
        · subst hbq
          rw [if_pos rfl] at ha ⊢
          rw [List.filter_append, sumF_app]
          by_cases hap : a = p
          · subst hap
            have f1 : ((nbr ts b).filter fun c => decide (c ≠ a)) = nbr ts b := List.filter_eq_self.mpr fun c hc => decide_eq_true (lp b c hc)
            have f2 : ([a].filter fun c => decide (c ≠ a)) = [] := by simp
            rw [f1, f2, sumF_nil, oldS _ _ _ hbp (lp b)]
            have al := M.all b _ hq hb'
            unfold stepM
            rw [if_neg (fun z => hbp z.2), if_pos ⟨rfl, rfl⟩]
            by_cases hxp : x = a
            · rw [if_pos hxp] at al ⊢
              rw [if_pos hxp]
              have i1 : ind b b = 1 := if_pos rfl
              have i2 : ind x b = 0 := if_neg (fun z => hbp (by rw [← z, hxp]))
              rw [i1] at al
              rw [i2]
              omega
            · rw [if_neg hxp] at al ⊢
              rw [if_neg hxp]
              omega
          · have ha' : a ∈ nbr ts b := by
              rcases List.mem_append.mp ha with z | z
              · exact z
              · exact (hap (List.mem_singleton.mp z)).elim
            have f2 : ([p].filter fun c => decide (c ≠ a)) = [p] := List.filter_eq_self.mpr fun c hc => by rw [List.mem_singleton.mp hc]; exact decide_eq_true (fun z => hap z.symm)
            rw [f2, sumF_one, oldS _ _ _ hbp (memf _ _ (lp b)), stepM_old (fun z => hbp z.2) (fun z => hap z.1)]
            have on := M.one a b _ ha' hb'
            have sp : stepM m p b b p x = if x = p then 1 else 0 := if_pos ⟨rfl, rfl⟩
            rw [sp, on]
            by_cases hxp : x = p
            · rw [if_pos hxp, if_pos hxp]
              have i1 : ind b b = 1 := if_pos rfl
              have i2 : ind x b = 0 := if_neg (fun z => hbp (by rw [← z, hxp]))
              rw [i1, i2]
              omega
            · rw [if_neg hxp, if_neg hxp]
              omega
        · rw [if_neg hbq, List.append_nil] at ha ⊢
          have hap := (nin ha).1
          rw [oldS _ _ _ hbp (memf _ _ (lp b)), stepM_old (fun z => hbp z.2) (fun z => hap z.1), indx x b hbp hbq]
          exact M.one a b _ ha hb'
    · rw [nbr_snoc ts hpq]
      have hb' := back x hx
      by_cases hbp : q0 = p
      · subst hbp
        rw [np, if_pos rfl, List.nil_append, sumF_one]
        have sp : stepM m q0 q q0 q x = if x = q0 then 0 else 1 := by
          unfold stepM
          rw [if_neg (fun z => hpq z.1), if_pos ⟨rfl, rfl⟩]
        rw [sp]
        unfold ind
        split <;> rfl
      · rw [if_neg hbp]
        have hq0' : q0 ∈ ps := by
          rcases List.mem_append.mp hq0 with z | z
          · exact z
          · exact (hbp (List.mem_singleton.mp z)).elim
        have al := M.all q0 _ hq0' hb'
        rw [sumF_app, oldS _ _ _ hbp (lp q0)]
        by_cases hbq : q0 = q
        · subst hbq
          rw [if_pos rfl, sumF_one]
          have sp : stepM m p q0 q0 p x = if x = p then 1 else 0 := if_pos ⟨rfl, rfl⟩
          rw [sp]
          by_cases hxp : x = p
          · rw [if_pos hxp] at al ⊢
            rw [if_pos hxp]
            have i1 : ind q0 q0 = 1 := if_pos rfl
            have i2 : ind x q0 = 0 := if_neg (fun z => hbp (by rw [← z, hxp]))
            rw [i1] at al
            rw [i2]
            omega
          · rw [if_neg hxp] at al ⊢
            rw [if_neg hxp]
            omega
        · rw [if_neg hbq, sumF_nil, indx x q0 hbp hbq]
          omega

theorem sumF_add (l : List Int) (f g : Int → Nat) : sumF l (fun x => f x + g x) = sumF l f + sumF l g := by
  induction l with
  | nil => rfl
  | cons x l ih =>
    show (f x + g x) + sumF l _ = (f x + sumF l f) + (g x + sumF l g)
    rw [ih]
    omega
theorem sumF_zero (l : List Int) : sumF l (fun _ => 0) = 0 := by
  induction l with
  | nil => rfl
  | cons x l ih => show 0 + sumF l _ = 0; rw [ih]
theorem sumF_swap (l k : List Int) (f : Int → Int → Nat) : sumF l (fun x => sumF k (fun c => f c x)) = sumF k (fun c => sumF l (fun x => f c x)) := by
  induction k with
  | nil => exact sumF_zero l
  | cons c k ih =>
    show sumF l (fun x => f c x + sumF k (fun c => f c x)) = sumF l (fun x => f c x) + sumF k (fun c => sumF l (fun x => f c x))
    rw [sumF_add, ih]
theorem sumF_ind {l : List Int} (nd : l.Nodup) {b : Int} (h : b ∈ l) : sumF l (fun x => ind x b) = 1 := by
  induction l with
  | nil => cases h
  | cons x l ih =>
    obtain ⟨n1, n2⟩ := List.nodup_cons.mp nd
    show ind x b + sumF l (fun x => ind x b) = 1
    by_cases e : x = b
    · have : sumF l (fun x => ind x b) = sumF l (fun _ => 0) := sumF_congr fun y hy => if_neg (fun z => n1 (by rw [e, ← z]; exact hy))
      rw [this, sumF_zero]
      unfold ind
      rw [if_pos e]
    · have hb : b ∈ l := by
        rcases List.mem_cons.mp h with z | z
        · exact (e z.symm).elim
        · exact z
      rw [ih n2 hb]
      unfold ind
      rw [if_neg e]
theorem sumF_le {l : List Int} {f : Int → Nat} (h : ∀ x ∈ l, f x ≤ 1) : sumF l f ≤ l.length := by
  induction l with
  | nil => exact Nat.le_refl _
  | cons x l ih =>
    show f x + sumF l f ≤ l.length + 1
    have := h x List.mem_cons_self
    have := ih fun y hy => h y (List.mem_cons_of_mem _ hy)
    omega
theorem sumF_mem {l : List Int} {f : Int → Nat} {x : Int} (h : x ∈ l) : f x ≤ sumF l f := by
  induction l with
  | nil => cases h
  | cons y l ih =>
    show f x ≤ f y + sumF l f
    rcases List.mem_cons.mp h with z | z
    · rw [z]; omega
    · have := ih z
      omega
theorem sumF_perm {l k : List Int} (h : l.Perm k) (f : Int → Nat) : sumF l f = sumF k f := by
  unfold sumF
  exact (h.map f).sum_nat
theorem nbr_sym {ts : List Tie} {a b : Int} (hv : ∀ t ∈ ts, t.a < t.b) (h : a ∈ nbr ts b) : b ∈ nbr ts a := by
  unfold nbr at h ⊢
  obtain ⟨t, ht, e⟩ := List.mem_filterMap.mp h
  refine List.mem_filterMap.mpr ⟨t, ht, ?_⟩
  have := hv t ht
  unfold other at e ⊢
  by_cases ha : t.a = b
  · rw [if_pos ha] at e
    have e := Option.some.inj e
    rw [if_neg (by omega), if_pos e, ha]
  · rw [if_neg ha] at e
    by_cases hb : t.b = b
    · rw [if_pos hb] at e
      have e := Option.some.inj e
      rw [if_pos e, hb]
    · rw [if_neg hb] at e; cases e
/-- how many places hang at b seen from a -/
theorem weight_tree {t : Tr} (ht : TreeOk t) : ∃ w : Int → Int → Nat, ∀ a b, a ∈ nearOf t.2 b → w a b = 1 + sumF ((nearOf t.2 b).filter fun c => decide (c ≠ a)) (w b) ∧ w a b ≤ t.1.length := by
  obtain ⟨ps, ts, g, hp, e⟩ := ht.ex
  obtain ⟨m, M⟩ := weights g
  have nd := g.nd
  have hpl := hp.length_eq
  rw [rangeL_length] at hpl
  have hn : ps.length = t.1.length := by omega
  have hv : ∀ x ∈ ts, x.a < x.b := fun x hx => (g.in x hx).2.2
  have perm : ∀ b, (nearOf t.2 b).Perm (nbr ts b) := fun b => by
    unfold nearOf nbr
    rw [e]
    exact (sortT_perm _).trans ((sortT_perm ts).filterMap _)
  refine ⟨fun a b => sumF ps (fun x => m a b x), fun a b ha => ?_⟩
  have ha' : a ∈ nbr ts b := (perm b).mem_iff.mp ha
  obtain ⟨h1, h2, h3⟩ := nbr_in g ha'
  constructor
  · have e1 : sumF ps (fun x => m a b x) = sumF ps (fun x => ind x b + sumF ((nbr ts b).filter fun c => decide (c ≠ a)) (fun c => m b c x)) := sumF_congr fun x hx => M.one a b x ha' hx
    show sumF ps (fun x => m a b x) = _
    rw [e1, sumF_add, sumF_ind nd h2, sumF_swap]
    rw [sumF_perm ((perm b).filter _)]
  · rw [← hn]
    refine sumF_le fun x hx => ?_
    have := M.all a x h1 hx
    have hb := nbr_sym hv ha'
    have := sumF_mem (f := fun c => m a c x) hb
    omega

/-- how many places hang at b seen from a -/
theorem weight_tree2 {t : Tr} (ht : TreeOk t) : ∃ w : Int → Int → Nat, (∀ q, 0 ≤ q → q < (t.1.length : Int) → sumF (nearOf t.2 q) (w q) ≤ t.1.length) ∧ ∀ a b, a ∈ nearOf t.2 b → w a b = 1 + sumF ((nearOf t.2 b).filter fun c => decide (c ≠ a)) (w b) ∧ w a b ≤ t.1.length := by
  obtain ⟨ps, ts, g, hp, e⟩ := ht.ex
  obtain ⟨m, M⟩ := weights g
  have nd := g.nd
  have hpl := hp.length_eq
  rw [rangeL_length] at hpl
  have hn : ps.length = t.1.length := by omega
  have hv : ∀ x ∈ ts, x.a < x.b := fun x hx => (g.in x hx).2.2
  have perm : ∀ b, (nearOf t.2 b).Perm (nbr ts b) := fun b => by
    unfold nearOf nbr
    rw [e]
    exact (sortT_perm _).trans ((sortT_perm ts).filterMap _)
  refine ⟨fun a b => sumF ps (fun x => m a b x), fun q q0 q1 => ?_, fun a b ha => ?_⟩
  · have hq : q ∈ ps := hp.mem_iff.mpr (rangeL_mem.mpr ⟨q0, q1⟩)
    show sumF (nearOf t.2 q) (fun c => sumF ps (fun x => m q c x)) ≤ _
    rw [← sumF_swap, ← hn]
    refine sumF_le fun x hx => ?_
    rw [sumF_perm (perm q)]
    have := M.all q x hq hx
    omega
  have ha' : a ∈ nbr ts b := (perm b).mem_iff.mp ha
  obtain ⟨h1, h2, h3⟩ := nbr_in g ha'
  constructor
  · have e1 : sumF ps (fun x => m a b x) = sumF ps (fun x => ind x b + sumF ((nbr ts b).filter fun c => decide (c ≠ a)) (fun c => m b c x)) := sumF_congr fun x hx => M.one a b x ha' hx
    show sumF ps (fun x => m a b x) = _
    rw [e1, sumF_add, sumF_ind nd h2, sumF_swap]
    rw [sumF_perm ((perm b).filter _)]
  · rw [← hn]
    refine sumF_le fun x hx => ?_
    have := M.all a x h1 hx
    have hb := nbr_sym hv ha'
    have := sumF_mem (f := fun c => m a c x) hb
    omega

/-! ### ways -/
def Step (t : Tr) (x y c : Int) : Prop := ∃ z ∈ t.2, ((z.a = x ∧ z.b = y) ∨ (z.a = y ∧ z.b = x)) ∧ z.c = c
theorem whL_runN {s r : Type} {b : s → M (Ws s r)} (P : Nat → s → Prop) (Qf : s → Prop) (step : ∀ m x, P m x → (∃ x' m', m' < m ∧ b x = .ok (.go x') ∧ P m' x') ∨ (∃ x', b x = .ok (.stop x') ∧ Qf x')) : ∀ (n m : Nat) (x : s), P m x → m < n → ∃ x', whL b n x = .ok (.nx x') ∧ Qf x'
  | 0, m, x, _, h => absurd h (Nat.not_lt_zero _)
  | n + 1, m, x, p, h => by
    rcases step m x p with ⟨x', m', l, e, p'⟩ | ⟨x', e, q⟩
    · obtain ⟨x2, e2, q2⟩ := whL_runN P Qf step n m' x' p' (by omega)
      refine ⟨x2, ?_, q2⟩
      show (b x >>= _) = _
      rw [bind_ok e]
      exact e2
    · refine ⟨x', ?_, q⟩
      show (b x >>= _) = _
      rw [bind_ok e]
theorem dGet_mem {κ β : Type} [DecidableEq κ] [Py β] : ∀ {xs : List (κ × β)} {k : κ} {v : β}, (xs.map (·.1)).Nodup → (k, v) ∈ xs → dGet xs k = some v
  | [], _, _, _, h => by cases h
  | p :: xs, k, v, nd, h => by
    rw [List.map_cons, List.nodup_cons] at nd
    rcases List.mem_cons.mp h with e | h
    · rw [← e]; exact dGet_pos rfl
    · rw [dGet_neg (fun e => nd.1 (List.mem_map.mpr ⟨(k, v), h, e.symm⟩))]
      exact dGet_mem nd.2 h
theorem dHas_iff {κ β : Type} [DecidableEq κ] [Py β] : ∀ {xs : List (κ × β)} {k : κ}, dHas xs k = true ↔ k ∈ xs.map (·.1)
  | [], k => by simp [dHas, dGet]
  | p :: xs, k => by
    rw [List.map_cons, List.mem_cons]
    unfold dHas
    by_cases e : p.1 = k
    · rw [dGet_pos e]; simp [e]
    · rw [dGet_neg e]
      have := dHas_iff (xs := xs) (k := k)
      unfold dHas at this
      rw [this]
      constructor
      · exact .inr
      · rintro (z | z)
        · exact (e z.symm).elim
        · exact z
theorem lenOf_nd {t : Tr} (ht : TreeOk t) : ((lenOf t.2).map (·.1)).Nodup := by
  refine (keys_perm t.2).nodup_iff.mpr (List.nodup_append.mpr ⟨tree_pairs ht, ?_, ?_⟩)
  · have h : (t.2.map fun x => (x.b, x.a)) = (t.2.map fun x => (x.a, x.b)).map fun p => (p.2, p.1) := by rw [List.map_map]; rfl
    rw [h]
    refine List.Pairwise.map _ ?_ (tree_pairs ht)
    intro a b hab e
    injection e with e1 e2
    exact hab (Prod.ext e2 e1)
  · rintro p hp q hq e
    subst e
    obtain ⟨x, hx, e1⟩ := List.mem_map.mp hp
    obtain ⟨y, hy, e2⟩ := List.mem_map.mp hq
    have h1 := ht.tie x hx
    have h2 := ht.tie y hy
    rw [← e2] at e1
    injection e1 with a1 a2
    omega
theorem step_len {t : Tr} (ht : TreeOk t) {x y c : Int} (h : Step t x y c) : dGet (lenOf t.2) (x, y) = some c := by
  obtain ⟨z, hz, ⟨a, b⟩ | ⟨a, b⟩, e⟩ := h
  · exact dGet_mem (lenOf_nd ht) (lenOf_mem.mpr ⟨z, hz, .inl (by rw [a, b, e])⟩)
  · exact dGet_mem (lenOf_nd ht) (lenOf_mem.mpr ⟨z, hz, .inr (by rw [a, b, e])⟩)
theorem step_rg {t : Tr} (ht : TreeOk t) {x y c : Int} (h : Step t x y c) : (0 ≤ x ∧ x < (t.1.length : Int)) ∧ (0 ≤ y ∧ y < (t.1.length : Int)) ∧ x ≠ y := by
  obtain ⟨z, hz, h, e⟩ := h
  have := ht.tie z hz
  omega
theorem near_step {t : Tr} (ht : TreeOk t) {x y : Int} : y ∈ nearOf t.2 x ↔ ∃ c, Step t x y c := by
  rw [nearOf_mem fun z hz => (ht.tie z hz).2.1]
  constructor
  · rintro ⟨z, hz, h⟩
    exact ⟨z.c, z, hz, by omega, rfl⟩
  · rintro ⟨c, z, hz, h, e⟩
    exact ⟨z, hz, by omega⟩

def m_row_down : Nat → ((List Int) × (List (T3 Int Int Int))) → (T4 (List Sm) (List Sm) (List Sm) Sm) → (List (List Int)) → (List ((Int × Int) × Int)) → (Int × Int) → M ((List Int))
  | 0, _, _, _, _, _ => bad
  | k_ + 1, x_tree, x_rule, x_near, x_lengths, x_branch =>
    opt (atI x_near x_branch.2) >>= fun y13 =>
    compS (fun (y23 : Int) (st40 : Unit) =>
    if y23 ≠ x_branch.1 then (
    m_row_down k_ x_tree x_rule x_near x_lengths (x_branch.2, y23) >>= fun r54 =>
    .ok (some r54, ()))
    else (
    .ok (none, ()))) y13 () >>= fun q84 =>
    m_row_with x_tree x_rule x_branch.2 q84.1 >>= fun r91 =>
    opt (atI x_tree.1 x_branch.2) >>= fun y111 =>
    opt (dGet x_lengths x_branch) >>= fun y121 =>
    m_over_tie x_rule r91 y111 y121 >>= fun r126 =>
    .ok r126

/-! ### a branch's row, by the program and by the law -/
theorem merge1 (own : Int) : mergeDS [(("own" : Str), (IL.i own))] = [(("own" : Str), (IL.i own))] := rfl
theorem merge3 (k1 k2 k3 : Str) (a b c : IL) (nd : [k1, k2, k3].Nodup) : mergeDS [(k1, a), (k2, b), (k3, c)] = [(k1, a), (k2, b), (k3, c)] := by
  unfold mergeDS
  rw [merge_newS (by exact nd)]
  rfl
theorem evB {many own : Int} (ho : own.natAbs < 2 ^ 100) : Ev wsB many own 0 [] [] (mergeDS [(("own" : Str), (IL.i own))]) 1 1 where
  ho := ho
  ht := by decide
  hs := fun h => absurd h (by decide +kernel)
  hm := fun h => absurd h (by decide +kernel)
  ko := fun _ => by rw [merge1]; exact dGet_pos rfl
  kt := fun h => absurd h (by decide +kernel)
  ks := fun h => absurd h (by decide +kernel)
  km := fun h => absurd h (by decide +kernel)
  S1 := by decide
  M1 := by decide
  SM := by decide
theorem evJ {many own : Int} {so more : List Int} {S M : Nat} (ho : own.natAbs < 2 ^ 100) (hs : (so.length : Int) = many) (hs2 : ∀ y ∈ so, y.natAbs < 2 ^ S) (hm : (more.length : Int) = many) (hm2 : ∀ y ∈ more, y.natAbs < 2 ^ M) (S1 : 1 ≤ S) (M1 : 1 ≤ M) (SM : S + M ≤ 900000) :
    Ev wsJ many own 0 so more (mergeDS [(("own" : Str), (IL.i own)), (("so" : Str), (IL.l so)), (("more" : Str), (IL.l more))]) S M where
  ho := ho
  ht := by decide
  hs := fun _ => ⟨hs, hs2⟩
  hm := fun _ => ⟨hm, hm2⟩
  ko := fun _ => by rw [merge3 _ _ _ _ _ _ (by decide +kernel)]; exact dGet_pos rfl
  kt := fun h => absurd h (by decide +kernel)
  ks := fun _ => by rw [merge3 _ _ _ _ _ _ (by decide +kernel), dGet_neg (fun e => s_so e.symm)]; exact dGet_pos rfl
  km := fun _ => by rw [merge3 _ _ _ _ _ _ (by decide +kernel), dGet_neg (fun e => s_mo e.symm), dGet_neg (fun e => s_ms e.symm)]; exact dGet_pos rfl
  S1 := S1
  M1 := M1
  SM := SM
theorem evO {many own tie : Int} {more : List Int} {M : Nat} (ho : own.natAbs < 2 ^ 100) (ht : tie.natAbs < 2 ^ 100) (hm : (more.length : Int) = many) (hm2 : ∀ y ∈ more, y.natAbs < 2 ^ M) (M1 : 1 ≤ M) (SM : 1 + M ≤ 900000) :
    Ev wsO many own tie [] more (mergeDS [(("own" : Str), (IL.i own)), (("tie" : Str), (IL.i tie)), (("more" : Str), (IL.l more))]) 1 M where
  ho := ho
  ht := ht
  hs := fun h => absurd h (by decide +kernel)
  hm := fun _ => ⟨hm, hm2⟩
  ko := fun _ => by rw [merge3 _ _ _ _ _ _ (by decide +kernel)]; exact dGet_pos rfl
  kt := fun _ => by rw [merge3 _ _ _ _ _ _ (by decide +kernel), dGet_neg (fun e => s_to e.symm)]; exact dGet_pos rfl
  ks := fun h => absurd h (by decide +kernel)
  km := fun _ => by rw [merge3 _ _ _ _ _ _ (by decide +kernel), dGet_neg (fun e => s_mo e.symm), dGet_neg (fun e => s_mt e.symm)]; exact dGet_pos rfl
  S1 := by decide
  M1 := M1
  SM := SM
def lnOf (t : Tr) (b c : Int) : Int := (dGet (lenOf t.2) (b, c)).getD 0
theorem step_ln {t : Tr} (ht : TreeOk t) {b c l : Int} (h : Step t b c l) : lnOf t b c = l := by unfold lnOf; rw [step_len ht h]; rfl
theorem sort_map {t : Tr} (b : Int) (l : List Int) : sortT (l.map fun c => (c, lnOf t b c)) = (sortT l).map fun c => (c, lnOf t b c) := by
  refine perm_sorted_eq (le := leT) LeOk.anti ((sortT_perm _).trans ((sortT_perm l).map _).symm) (sortT_sorted _) ?_
  rw [List.pairwise_map]
  refine List.Pairwise.imp ?_ (sortT_sorted l)
  intro x y h
  rw [leT_int] at h
  have h := of_decide_eq_true h
  rw [leT_p]
  refine decide_eq_true ?_
  by_cases e : x = y
  · exact .inr ⟨e, by rw [e]; exact Int.le_refl _⟩
  · exact .inl (by show x < y; omega)
theorem near_ok (t : Tr) (ht : TreeOk t) (hn : t.1.length ≤ 100000) (b : Int) : m_law_near t b = .ok ((nearOf t.2 b).map fun c => (c, lnOf t b c)) := by
  have hlen := ht.len
  unfold m_law_near
  rw [bind_ok (compS_pure (fun y => if b ∈ ([(y.a, y.b).1, (y.a, y.b).2] : List Int) then some ((y.a + y.b) - b, y.c) else none) (by omega) fun y _ => by
    by_cases z : b ∈ ([(y.a, y.b).1, (y.a, y.b).2] : List Int)
    · rw [if_pos z, if_pos z]
    · rw [if_neg z, if_neg z])]
  have e : (t.2.filterMap fun y => if b ∈ ([(y.a, y.b).1, (y.a, y.b).2] : List Int) then some ((y.a + y.b) - b, y.c) else none) = (t.2.filterMap (other b)).map fun c => (c, lnOf t b c) := by
    rw [List.map_filterMap]
    refine fm_congr fun y hy => ?_
    have hv := ht.tie y hy
    unfold other
    by_cases ha : y.a = b
    · rw [if_pos (by simp [ha]), if_pos ha]
      show some _ = some (y.b, lnOf t b y.b)
      rw [step_ln ht (show Step t b y.b y.c from ⟨y, hy, .inl ⟨ha, rfl⟩, rfl⟩)]
      exact congrArg some (Prod.ext (by show y.a + y.b - b = y.b; omega) rfl)
    · rw [if_neg ha]
      by_cases hb : y.b = b
      · rw [if_pos (by simp [hb]), if_pos hb]
        show some _ = some (y.a, lnOf t b y.a)
        rw [step_ln ht (show Step t b y.a y.c from ⟨y, hy, .inr ⟨rfl, hb⟩, rfl⟩)]
        exact congrArg some (Prod.ext (by show y.a + y.b - b = y.a; omega) rfl)
      · rw [if_neg hb, if_neg]
        · rfl
        · simp only [List.mem_cons, List.not_mem_nil, or_false]
          rintro (z | z)
          · exact ha z.symm
          · exact hb z.symm
  rw [e]
  show Except.ok (sortT _) = _
  rw [sort_map]
  rfl
theorem sumF_mul (l : List Int) (f : Int → Nat) (k : Nat) : sumF l (fun c => k * f c) = k * sumF l f := by
  induction l with
  | nil => rfl
  | cons x l ih => show k * f x + sumF l _ = k * (f x + sumF l f); rw [ih, Nat.mul_add]
theorem fold_ok {r : Rule} {many : Int} (R : RuleOk r many) {own : Int} (ho : own.natAbs < 2 ^ 100) (a : Option Int) (t : Tr) (b : Int) (f : Int → List Int) (w : Int → Nat) (br : Int × Int → M (List Int)) : ∀ (L : List Int) (so : List Int) (B : Nat),
    (∀ c ∈ L, some c ≠ a → br (c, lnOf t b c) = .ok (f c) ∧ ((f c).length : Int) = many ∧ 1 ≤ w c ∧ ∀ v ∈ f c, v.natAbs < 2 ^ (700 * w c - 220)) → (so.length : Int) = many → (∀ v ∈ so, v.natAbs < 2 ^ B) → 1 ≤ B → B + 700 * sumF (L.filter fun c => decide (some c ≠ a)) w ≤ 800000 →
    ∃ so', loopN (fun (y42 : (List Int)) (st53 : (List Int)) => m_joined r st53 y42 own >>= fun r61 => (.ok r61 : M _)) ((L.filter fun c => decide (some c ≠ a)).map f) so = .ok so' ∧
      loopN (fun (y116 : (Int × Int)) (st127 : (List Int)) =>
        if some y116.1 ≠ a then (
        br y116 >>= fun r145 =>
        compS (fun (y158 : Sm) (st175 : Unit) =>
        m_law_value 12 y158 (mergeDS [(("own" : Str), (IL.i own)), (("so" : Str), (IL.l st127)), (("more" : Str), (IL.l r145))]) >>= fun r192 =>
        .ok (some r192, ())) r.c () >>= fun q210 =>
        .ok q210.1)
        else (
        (.ok st127 : M _))) (L.map fun c => (c, lnOf t b c)) so = .ok so' ∧ (so'.length : Int) = many ∧ ∀ v ∈ so', v.natAbs < 2 ^ (B + 700 * sumF (L.filter fun c => decide (some c ≠ a)) w)
  | [], so, B, _, h1, h2, _, _ => ⟨so, rfl, rfl, h1, h2⟩
  | c :: L, so, B, hc, h1, h2, hB, hT => by
    by_cases e : some c = a
    · have ef : ((c :: L).filter fun c => decide (some c ≠ a)) = L.filter fun c => decide (some c ≠ a) := by
        rw [List.filter_cons, if_neg (by simp [e])]
      rw [ef] at hT ⊢
      obtain ⟨so', i1, i2, i3⟩ := fold_ok R ho a t b f w br L so B (fun z hz => hc z (List.mem_cons_of_mem _ hz)) h1 h2 hB hT
      refine ⟨so', i1, ?_, i3⟩
      rw [List.map_cons]
      show ((if some c ≠ a then _ else _) >>= _) = _
      rw [if_neg (fun z => z e)]
      exact i2
    · have ef : ((c :: L).filter fun c => decide (some c ≠ a)) = c :: L.filter fun c => decide (some c ≠ a) := by
        rw [List.filter_cons, if_pos (by simp [e])]
      rw [ef] at hT ⊢
      have hs : sumF (c :: L.filter fun c => decide (some c ≠ a)) w = w c + sumF (L.filter fun c => decide (some c ≠ a)) w := rfl
      rw [hs] at hT ⊢
      obtain ⟨g1, g2, g3, g4⟩ := hc c List.mem_cons_self e
      have R1 := R.m2
      have Rc := R.lc
      obtain ⟨so1, j1, j2, j3, j4⟩ := evalL (evJ ho h1 h2 g2 g4 hB (by omega) (by omega)) R.gc (by omega)
      obtain ⟨so', i1, i2, i3, i4⟩ := fold_ok R ho a t b f w br L so1 (B + (700 * w c - 220) + 203) (fun z hz => hc z (List.mem_cons_of_mem _ hz)) (by omega) j4 (by omega) (by omega)
      refine ⟨so', ?_, ?_, i3, fun v hv => pow_lt (i4 v hv) (by omega)⟩
      · rw [List.map_cons]
        show ((m_joined r so (f c) own >>= fun r61 => (.ok r61 : M _)) >>= _) = _
        rw [bind_ok (show (m_joined r so (f c) own >>= fun r61 => (.ok r61 : M _)) = .ok so1 by
          unfold m_joined
          rw [j1 _ fun y v hv => by rw [bind_ok hv]]
          rfl)]
        exact i1
      · rw [List.map_cons]
        show ((if some c ≠ a then _ else _) >>= _) = _
        rw [if_pos e]
        rw [bind_ok (show (br (c, lnOf t b c) >>= _) = .ok so1 by
          rw [bind_ok g1, bind_ok (j2 _ fun y v hv => by rw [bind_ok hv])])]
        exact i2
theorem rows_ok (t : Tr) (ht : TreeOk t) (hn : t.1.length ≤ 40) {r : Rule} {many : Int} (R : RuleOk r many) (hw1 : ∀ x ∈ t.1, x.natAbs < 2 ^ 100) (hw2 : ∀ x ∈ t.2, x.c.natAbs < 2 ^ 100) (w : Int → Int → Nat)
    (hw : ∀ a b, a ∈ nearOf t.2 b → w a b = 1 + sumF ((nearOf t.2 b).filter fun c => decide (c ≠ a)) (w b) ∧ w a b ≤ t.1.length) :
    ∀ (N : Nat) (a b l : Int), Step t a b l → w a b ≤ N → ∃ row, (∀ k, N ≤ k → m_row_down k t r (nearAll t.1.length t.2) (lenOf t.2) (a, b) = .ok row) ∧ (∀ k, 2 * N ≤ k → m_law_branch k t r a b l = .ok row) ∧ (row.length : Int) = many ∧ 1 ≤ w a b ∧ ∀ v ∈ row, v.natAbs < 2 ^ (700 * w a b - 220)
  | 0, a, b, l, hs, hN => by
    have hs' : Step t b a l := by
      obtain ⟨z, hz, h, e⟩ := hs
      exact ⟨z, hz, by omega, e⟩
    have := (hw a b ((near_step ht).mpr ⟨l, hs'⟩)).1
    omega
  | N + 1, a, b, l, hs, hN => by
    have hs' : Step t b a l := by
      obtain ⟨z, hz, h, e⟩ := hs
      exact ⟨z, hz, by omega, e⟩
    have hlen := ht.len
    obtain ⟨hw3, hw4⟩ := hw a b ((near_step ht).mpr ⟨l, hs'⟩)
    have hrg := (step_rg ht hs).2.1
    have hl100 : l.natAbs < 2 ^ 100 := by
      obtain ⟨z, hz, _, e⟩ := hs
      rw [← e]; exact hw2 z hz
    obtain ⟨own, o1, o2⟩ := atI_some (xs := t.1) (j := b) hrg.1 hrg.2
    have ho := hw1 own (List.mem_of_getElem? o2)
    have sub : ∀ c, c ∈ nearOf t.2 b → c ≠ a → w b c ≤ sumF ((nearOf t.2 b).filter fun c => decide (c ≠ a)) (w b) := fun c hc hca => sumF_mem (List.mem_filter.mpr ⟨hc, decide_eq_true hca⟩)
    have ex : ∀ c, ∃ row : List Int, c ∈ nearOf t.2 b → c ≠ a → (∀ k, N ≤ k → m_row_down k t r (nearAll t.1.length t.2) (lenOf t.2) (b, c) = .ok row) ∧ (∀ k, 2 * N ≤ k → m_law_branch k t r b c (lnOf t b c) = .ok row) ∧ (row.length : Int) = many ∧ 1 ≤ w b c ∧ ∀ v ∈ row, v.natAbs < 2 ^ (700 * w b c - 220) := fun c => by
      by_cases hc : c ∈ nearOf t.2 b ∧ c ≠ a
      · obtain ⟨lc, hsc⟩ := (near_step ht).mp hc.1
        have := sub c hc.1 hc.2
        obtain ⟨row, hr⟩ := rows_ok t ht hn R hw1 hw2 w hw N b c lc hsc (by omega)
        rw [← step_ln ht hsc] at hr
        exact ⟨row, fun _ _ => hr⟩
      · exact ⟨[], fun h1 h2 => (hc ⟨h1, h2⟩).elim⟩
    obtain ⟨f, hf⟩ := Classical.skolem.mp ex
    have R1 := R.m2
    have Ra := R.la
    have Rb := R.lb
    obtain ⟨so0, j1, j2, j3, j4⟩ := evalL (evB (many := many) ho) R.ga (by omega)
    have hnl : (nearOf t.2 b).length ≤ t.2.length := by
      unfold nearOf
      rw [sortT_len]
      exact List.length_filterMap_le _ _
    have near_at := nearAll_at (n := t.1.length) (ties := t.2) (p := b) hrg.1 (by omega)
    -- the two ways, with a fuel for what is below
    have feq : ((nearOf t.2 b).filter fun c => decide (some c ≠ some a)) = (nearOf t.2 b).filter fun c => decide (c ≠ a) := by
      congr 1
      funext c
      simp
    have fold := fun (br : Int × Int → M (List Int)) (hbr : ∀ c ∈ nearOf t.2 b, c ≠ a → br (c, lnOf t b c) = .ok (f c)) => by
      have z := fold_ok R ho (some a) t b f (w b) br (nearOf t.2 b) so0 205 (fun c hc hca => ⟨hbr c hc (fun e => hca (congrArg some e)), (hf c hc (fun e => hca (congrArg some e))).2.2⟩) (by omega) j4 (by decide) (by rw [feq]; omega)
      rw [feq] at z
      exact z
    obtain ⟨so', i1, _, i3, i4⟩ := fold (fun y => .ok (f y.1)) (fun _ _ _ => rfl)
    obtain ⟨row, k1, k2, k3, k4⟩ := evalL (evO (many := many) (own := own) (tie := l) ho hl100 i3 i4 (by omega) (by omega)) R.gb (by omega)
    refine ⟨row, fun k hk => ?_, fun k hk => ?_, by omega, by omega, fun v hv => pow_lt (k4 v hv) (by omega)⟩
    · obtain ⟨k', rfl⟩ : ∃ k', k = k' + 1 := ⟨k - 1, by omega⟩
      unfold m_row_down
      rw [opt_b (show L2.atI (nearAll t.1.length t.2) b = some (nearOf t.2 b) from near_at)]
      rw [bind_ok (compS_pure (fun c => if c ≠ a then some (f c) else none) (by omega) fun c hc => by
        show (if c ≠ a then _ else _) = _
        by_cases e : c ≠ a
        · rw [if_pos e, if_pos e]
          show (m_row_down k' t r (nearAll t.1.length t.2) (lenOf t.2) (b, c) >>= _) = _
          rw [bind_ok ((hf c hc e).1 k' (by omega))]
        · rw [if_neg e, if_neg e])]
      have ef : (nearOf t.2 b).filterMap (fun c => if c ≠ a then some (f c) else none) = ((nearOf t.2 b).filter fun c => decide (c ≠ a)).map f := by
        rw [← List.filterMap_eq_map', List.filterMap_filter]
        refine fm_congr fun c _ => ?_
        by_cases e : c ≠ a
        · rw [if_pos e, if_pos (decide_eq_true e)]
        · rw [if_neg e, if_neg (by simpa using e)]
      rw [ef]
      rw [bind_ok (show m_row_with t r b (((nearOf t.2 b).filter fun c => decide (c ≠ a)).map f) = .ok so' by
        unfold m_row_with
        rw [opt_b o1, bind_ok (show m_begun r own = .ok so0 by
          unfold m_begun
          rw [bind_ok (j1 _ fun y v hv => by rw [bind_ok hv])]), bind_ok i1])]
      rw [opt_b (show L2.atI t.1 b = some own from o1), opt_b (show dGet (lenOf t.2) (a, b) = some l from step_len ht hs)]
      rw [bind_ok (show m_over_tie r so' own l = .ok row by
        unfold m_over_tie
        rw [bind_ok (k1 _ fun y v hv => by rw [bind_ok hv])])]
    · obtain ⟨k', rfl⟩ : ∃ k', k = k' + 1 + 1 := ⟨k - 2, by omega⟩
      obtain ⟨so2, i1', i2', _, _⟩ := fold (fun y => m_law_branch k' t r b y.1 y.2) (fun c hc hca => (hf c hc hca).2.1 k' (by omega))
      have es : so2 = so' := by rw [i1] at i1'; exact (Except.ok.inj i1').symm
      subst es
      unfold m_law_branch
      rw [bind_ok (show m_law_row (k' + 1) t r b (some a) = .ok so2 by
        unfold m_law_row
        rw [opt_b o1, bind_ok (j2 _ fun y v hv => by rw [bind_ok hv]), bind_ok (near_ok t ht (by omega) b), bind_ok i2'])]
      rw [bind_ok (k2 _ fun y v hv => by rw [opt_b o1, bind_ok hv])]

theorem merge2 (k1 k2 : Str) (a b : IL) (nd : [k1, k2].Nodup) : mergeDS [(k1, a), (k2, b)] = [(k1, a), (k2, b)] := by
  unfold mergeDS
  rw [merge_newS (by exact nd)]
  rfl
theorem evT {many own : Int} {so : List Int} {S : Nat} (ho : own.natAbs < 2 ^ 100) (hs : (so.length : Int) = many) (hs2 : ∀ y ∈ so, y.natAbs < 2 ^ S) (S1 : 1 ≤ S) (SM : S + 1 ≤ 900000) :
    Ev wsT many own 0 so [] (mergeDS [(("own" : Str), (IL.i own)), (("so" : Str), (IL.l so))]) S 1 where
  ho := ho
  ht := by decide
  hs := fun _ => ⟨hs, hs2⟩
  hm := fun h => absurd h (by decide +kernel)
  ko := fun _ => by rw [merge2 _ _ _ _ (by decide +kernel)]; exact dGet_pos rfl
  kt := fun h => absurd h (by decide +kernel)
  ks := fun _ => by rw [merge2 _ _ _ _ (by decide +kernel), dGet_neg (fun e => s_so e.symm)]; exact dGet_pos rfl
  km := fun h => absurd h (by decide +kernel)
  S1 := S1
  M1 := by decide
  SM := SM

/-! ### the order of the branches -/
theorem nr_nd {t : Tr} (ht : TreeOk t) (x : Int) : (nearOf t.2 x).Nodup := by
  unfold nearOf
  refine (sortT_perm _).nodup_iff.mpr ?_
  refine List.pairwise_filterMap.mpr ?_
  have h := List.pairwise_map.mp (tree_pairs ht)
  refine List.Pairwise.imp_of_mem ?_ h
  intro s u hs hu ne b eb b' eb' ebb
  have v1 := ht.tie s hs
  have v2 := ht.tie u hu
  subst ebb
  refine ne ?_
  unfold other at eb eb'
  by_cases a1 : s.a = x
  · rw [if_pos a1] at eb
    have eb := Option.some.inj eb
    by_cases a2 : u.a = x
    · rw [if_pos a2] at eb'
      have eb' := Option.some.inj eb'
      rw [a1, a2, eb, eb']
    · rw [if_neg a2] at eb'
      by_cases a3 : u.b = x
      · rw [if_pos a3] at eb'
        have eb' := Option.some.inj eb'
        omega
      · rw [if_neg a3] at eb'; cases eb'
  · rw [if_neg a1] at eb
    by_cases a3 : s.b = x
    · rw [if_pos a3] at eb
      have eb := Option.some.inj eb
      by_cases a2 : u.a = x
      · rw [if_pos a2] at eb'
        have eb' := Option.some.inj eb'
        omega
      · rw [if_neg a2] at eb'
        by_cases a4 : u.b = x
        · rw [if_pos a4] at eb'
          have eb' := Option.some.inj eb'
          rw [a3, a4, eb, eb']
        · rw [if_neg a4] at eb'; cases eb'
    · rw [if_neg a3] at eb; cases eb
theorem nr_sym {t : Tr} (ht : TreeOk t) {x y : Int} : y ∈ nearOf t.2 x ↔ x ∈ nearOf t.2 y := by
  rw [nearOf_mem fun z hz => (ht.tie z hz).2.1, nearOf_mem fun z hz => (ht.tie z hz).2.1]
  constructor
  · rintro ⟨z, hz, h⟩; exact ⟨z, hz, by omega⟩
  · rintro ⟨z, hz, h⟩; exact ⟨z, hz, by omega⟩
def brs (t : Tr) : List (Int × Int) := sortT ((lenOf t.2).map (·.1))
theorem brs_mem {t : Tr} (ht : TreeOk t) {p : Int × Int} : p ∈ brs t ↔ p.2 ∈ nearOf t.2 p.1 := by
  unfold brs
  rw [sortT_mem, nearOf_mem fun z hz => (ht.tie z hz).2.1]
  constructor
  · intro h
    obtain ⟨q, hq, e⟩ := List.mem_map.mp h
    obtain ⟨z, hz, h | h⟩ := lenOf_mem.mp hq
    · rw [h] at e; subst e; exact ⟨z, hz, .inl ⟨rfl, rfl⟩⟩
    · rw [h] at e; subst e; exact ⟨z, hz, .inr ⟨rfl, rfl⟩⟩
  · rintro ⟨z, hz, ⟨a, b⟩ | ⟨a, b⟩⟩
    · exact List.mem_map.mpr ⟨((z.a, z.b), z.c), lenOf_mem.mpr ⟨z, hz, .inl rfl⟩, Prod.ext a b⟩
    · exact List.mem_map.mpr ⟨((z.b, z.a), z.c), lenOf_mem.mpr ⟨z, hz, .inr rfl⟩, Prod.ext a b⟩
theorem brs_nd {t : Tr} (ht : TreeOk t) : (brs t).Nodup := (sortT_perm _).nodup_iff.mpr (lenOf_nd ht)
theorem brs_len {t : Tr} : (brs t).length = 2 * t.2.length := by unfold brs; rw [sortT_len, List.length_map, lenOf_len]
theorem merge_newT {β : Type} : ∀ {xs m : List ((Int × Int) × β)}, ((m ++ xs).map (·.1)).Nodup → xs.foldl (fun m p => dPut m p.1 p.2) m = m ++ xs
  | [], m, _ => by simp
  | x :: xs, m, h => by
    rw [List.foldl_cons]
    have hn : ∀ p ∈ m, p.1 ≠ x.1 := fun p hp e => by
      rw [List.map_append, List.map_cons, List.nodup_append] at h
      exact h.2.2 p.1 (List.mem_map.mpr ⟨p, hp, rfl⟩) x.1 List.mem_cons_self e
    rw [dPut_new hn, merge_newT (by rw [List.append_assoc]; exact h), List.append_assoc]
    rfl
theorem dPut_keys {β : Type} {xs : List ((Int × Int) × β)} {k : Int × Int} {y : β} (h : k ∈ xs.map (·.1)) : (dPut xs k y).map (·.1) = xs.map (·.1) := by
  unfold dPut
  obtain ⟨p, hp, e⟩ := List.mem_map.mp h
  rw [if_pos (List.any_eq_true.mpr ⟨p, hp, decide_eq_true e⟩), List.map_map]
  refine List.map_congr_left fun q _ => ?_
  show (if q.1 = k then (q.1, y) else q).1 = q.1
  by_cases z : q.1 = k
  · rw [if_pos z]
  · rw [if_neg z]
theorem dGet_map {β : Type} [Py β] {k j : Int × Int} {y : β} : ∀ xs : List ((Int × Int) × β), dGet (xs.map fun p => if p.1 = k then (p.1, y) else p) j = if j = k then (dGet xs j).map (fun _ => y) else dGet xs j
  | [] => by by_cases e : j = k <;> simp [dGet, e]
  | p :: xs => by
    rw [List.map_cons]
    by_cases e : p.1 = k
    · rw [if_pos e]
      by_cases e2 : p.1 = j
      · rw [dGet_pos (p := (p.1, y)) e2, dGet_pos e2, if_pos (e2.symm.trans e)]; rfl
      · rw [dGet_neg (p := (p.1, y)) e2, dGet_neg e2, dGet_map xs]
    · rw [if_neg e]
      by_cases e2 : p.1 = j
      · rw [dGet_pos e2, dGet_pos e2, if_neg (fun z => e (e2.trans z))]
      · rw [dGet_neg e2, dGet_neg e2, dGet_map xs]
theorem dGet_none {β : Type} [Py β] {xs : List ((Int × Int) × β)} {k : Int × Int} (h : ∀ p ∈ xs, p.1 ≠ k) : dGet xs k = none := by
  induction xs with
  | nil => rfl
  | cons p xs ih => rw [dGet_neg (h p List.mem_cons_self), ih fun q hq => h q (List.mem_cons_of_mem _ hq)]
theorem dGet_snoc {β : Type} [Py β] {k j : Int × Int} {y : β} : ∀ {xs : List ((Int × Int) × β)}, (∀ p ∈ xs, p.1 ≠ k) → dGet (xs ++ [(k, y)]) j = if j = k then some y else dGet xs j
  | [], _ => by
    by_cases e : j = k
    · rw [if_pos e, List.nil_append, dGet_pos (p := (k, y)) e.symm]
    · rw [if_neg e, List.nil_append, dGet_neg (p := (k, y)) (fun z => e z.symm)]
  | p :: xs, h => by
    rw [List.cons_append]
    by_cases e2 : p.1 = j
    · rw [dGet_pos e2, dGet_pos e2, if_neg (fun z => h p List.mem_cons_self (e2.trans z))]
    · rw [dGet_neg e2, dGet_neg e2, dGet_snoc fun q hq => h q (List.mem_cons_of_mem _ hq)]
theorem dGet_put {β : Type} [Py β] {xs : List ((Int × Int) × β)} {k j : Int × Int} {y : β} : dGet (dPut xs k y) j = if j = k then some y else dGet xs j := by
  unfold dPut
  by_cases h : (xs.any fun p => decide (p.1 = k)) = true
  · rw [if_pos h, dGet_map]
    by_cases e : j = k
    · rw [if_pos e, if_pos e]
      obtain ⟨p, hp, e2⟩ := List.any_eq_true.mp h
      have e2 := of_decide_eq_true e2
      have : dGet xs j ≠ none := by
        unfold dGet
        rw [ne_eq, Option.map_eq_none_iff, List.find?_eq_none]
        intro z
        exact z p hp (decide_eq_true (e2.trans e.symm))
      cases hh : dGet xs j with
      | none => exact (this hh).elim
      | some v => rfl
    · rw [if_neg e, if_neg e]
  · rw [if_neg h]
    refine dGet_snoc fun p hp e => h (List.any_eq_true.mpr ⟨p, hp, decide_eq_true e⟩)
/-- how many of the branches in (x, y) are still wanted, those of D being there -/
def need (t : Tr) (D : List (Int × Int)) (x y : Int) : Nat := ((nearOf t.2 y).filter fun c => decide (c ≠ x ∧ (y, c) ∉ D)).length
theorem need_zero {t : Tr} {D : List (Int × Int)} {x y : Int} : need t D x y = 0 ↔ ∀ c ∈ nearOf t.2 y, c ≠ x → (y, c) ∈ D := by
  unfold need
  rw [List.length_eq_zero_iff, List.filter_eq_nil_iff]
  constructor
  · intro h c hc hx
    exact Classical.byContradiction fun z => h c hc (decide_eq_true ⟨hx, z⟩)
  · intro h c hc z
    have z := of_decide_eq_true z
    exact z.2 (h c hc z.1)
theorem need_nil {t : Tr} (ht : TreeOk t) {x y : Int} (h : x ∈ nearOf t.2 y) : ((need t [] x y : Nat) : Int) = ((nearOf t.2 y).length : Int) - 1 := by
  have e : need t [] x y = ((nearOf t.2 y).erase x).length := by
    unfold need
    rw [(nr_nd ht y).erase_eq_filter]
    congr 2
    funext c
    simp [bne]
    by_cases z : c = x <;> simp [z]
  rw [e, List.length_erase_of_mem h]
  have := List.length_pos_of_mem h
  omega
theorem need_same {t : Tr} {D : List (Int × Int)} {a b x y : Int} (h : y ≠ a ∨ x = b) : need t (D ++ [(a, b)]) x y = need t D x y := by
  unfold need
  congr 1
  refine List.filter_congr fun c _ => ?_
  refine decide_eq_decide.mpr ?_
  rw [List.mem_append, List.mem_singleton]
  constructor
  · rintro ⟨h1, h2⟩; exact ⟨h1, fun z => h2 (.inl z)⟩
  · rintro ⟨h1, h2⟩
    refine ⟨h1, fun z => z.elim h2 fun z => ?_⟩
    injection z with z1 z2
    rcases h with h | h
    · exact h z1
    · exact h1 (z2.trans h.symm)
theorem filt_one {l : List Int} (nd : l.Nodup) {b : Int} (hb : b ∈ l) {p q : Int → Bool} (h1 : p b = true) (h2 : q b = false) (h : ∀ c ∈ l, c ≠ b → p c = q c) : (l.filter p).length = (l.filter q).length + 1 := by
  induction l with
  | nil => exact nomatch hb
  | cons x l ih =>
    obtain ⟨n1, n2⟩ := List.nodup_cons.mp nd
    by_cases e : x = b
    · subst e
      rw [List.filter_cons_of_pos h1, List.filter_cons_of_neg (by rw [h2]; decide), List.length_cons]
      rw [List.filter_congr (l := l) fun c hc => h c (List.mem_cons_of_mem _ hc) fun z => n1 (z ▸ hc)]
    · have hb' : b ∈ l := (List.mem_cons.mp hb).resolve_left fun z => e z.symm
      have i := ih n2 hb' fun c hc => h c (List.mem_cons_of_mem _ hc)
      have hx := h x List.mem_cons_self e
      by_cases px : p x = true
      · rw [List.filter_cons_of_pos px, List.filter_cons_of_pos (hx ▸ px), List.length_cons, List.length_cons, i]
      · rw [List.filter_cons_of_neg px, List.filter_cons_of_neg (hx ▸ px), i]
theorem need_less {t : Tr} (ht : TreeOk t) {D : List (Int × Int)} {a b x : Int} (hb : b ∈ nearOf t.2 a) (hx : x ≠ b) (hD : (a, b) ∉ D) : need t D x a = need t (D ++ [(a, b)]) x a + 1 := by
  unfold need
  refine filt_one (nr_nd ht a) hb (decide_eq_true ⟨fun z => hx z.symm, hD⟩) (decide_eq_false fun z => z.2 (by simp)) fun c _ hc => ?_
  refine decide_eq_decide.mpr ?_
  rw [List.mem_append, List.mem_singleton]
  constructor
  · rintro ⟨h1, h2⟩
    refine ⟨h1, fun z => z.elim h2 fun z => ?_⟩
    injection z with z1 z2
    exact hc z2
  · rintro ⟨h1, h2⟩; exact ⟨h1, fun z => h2 (.inl z)⟩
theorem take_app {a : Type} {l : List a} {n : Nat} (m : List a) (h : n ≤ l.length) : (l ++ m).take n = l.take n := by
  rw [List.take_append_of_le_length h]
/-- each branch stands behind those in it -/
def Behind (t : Tr) (found : List (Int × Int)) : Prop := ∀ (j : Nat) (p : Int × Int), found[j]? = some p → ∀ c ∈ nearOf t.2 p.2, c ≠ p.1 → (p.2, c) ∈ found.take j
theorem Behind.snoc {t : Tr} {found : List (Int × Int)} {q : Int × Int} {n : Nat} (h : Behind t found) (hn : n ≤ found.length) (hq : need t (found.take n) q.1 q.2 = 0) : Behind t (found ++ [q]) := by
  intro j p e c hc hx
  by_cases hj : j < found.length
  · rw [List.getElem?_append_left hj] at e
    rw [take_app _ (Nat.le_of_lt hj)]
    exact h j p e c hc hx
  · rw [List.getElem?_append_right (by omega)] at e
    have hj2 : j - found.length = 0 := by
      have := (List.getElem?_eq_some_iff.mp e).1
      simp at this
      omega
    rw [hj2] at e
    cases e
    have hj3 : j = found.length := by omega
    subst hj3
    rw [take_app _ (Nat.le_refl _), List.take_length]
    exact List.mem_of_mem_take (need_zero.mp hq c hc hx)
structure Ord (t : Tr) (D : List (Int × Int)) (left : List ((Int × Int) × Int)) (found : List (Int × Int)) (cnt : Int × Int → Nat) : Prop where
  nd : found.Nodup
  sub : ∀ p ∈ found, p ∈ brs t
  keys : left.map (·.1) = brs t
  get : ∀ p ∈ brs t, dGet left p = some ((cnt p : Nat) : Int)
  iff : ∀ p ∈ brs t, (p ∈ found ↔ cnt p = 0)
  bh : Behind t found

def turnO (a b : Int) : Int → (List ((Int × Int) × Int)) × (List (Int × Int)) → M ((List ((Int × Int) × Int)) × (List (Int × Int))) := fun (y201 : Int) (st212 : (List ((Int × Int) × Int)) × (List (Int × Int))) =>
  if y201 ≠ b then (
  opt (dGet st212.1 ((y201, a).1, (y201, a).2)) >>= fun y230 =>
  putD st212.1 ((y201, a).1, (y201, a).2) (y230 - (1 : Int)) >>= fun z243 =>
  opt (dGet z243 (y201, a)) >>= fun y253 =>
  if y253 = (0 : Int) then (
  appL st212.2 (y201, a) >>= fun _ =>
  .ok (z243, (st212.2 ++ [(y201, a)])))
  else (
  .ok (z243, st212.2)))
  else (
  .ok (st212.1, st212.2))
theorem putD_ok {β : Type} {xs : List ((Int × Int) × β)} {k : Int × Int} {y : β} (h : xs.length < 16777216) : putD xs k y = .ok (dPut xs k y) := by
  unfold putD
  rw [if_pos h]
theorem inner_ok {t : Tr} (ht : TreeOk t) (hn : t.1.length ≤ 100000) {a b : Int} (hb : b ∈ nearOf t.2 a) {n : Nat} {left : List ((Int × Int) × Int)} {found : List (Int × Int)} (hat : found[n]? = some (a, b))
    (I : Ord t (found.take n) left found fun p => need t (found.take n) p.1 p.2) :
    ∃ left' found', loopN (turnO a b) (nearOf t.2 a) (left, found) = .ok (left', found') ∧ found <+: found' ∧ Ord t (found'.take (n + 1)) left' found' fun p => need t (found'.take (n + 1)) p.1 p.2 := by
  have hlen := ht.len
  have hn1 : n < found.length := (List.getElem?_eq_some_iff.mp hat).1
  have hD' : found.take (n + 1) = found.take n ++ [(a, b)] := by
    rw [List.take_add_one, hat]; rfl
  have hnot : (a, b) ∉ found.take n := fun z => by
    obtain ⟨m, hm, e⟩ := List.getElem_of_mem z
    rw [List.length_take] at hm
    have e2 : found[m]? = some (a, b) := by rw [← List.getElem?_take_of_lt (show m < n by omega), List.getElem?_eq_getElem (by rw [List.length_take]; exact hm), e]
    have := (List.getElem?_inj (by omega) I.nd).mp (e2.trans hat.symm)
    omega
  have bl := brs_len (t := t)
  obtain ⟨st, e, hP⟩ := loopN_run (f := turnO a b) (all := nearOf t.2 a) (x := (left, found))
    (fun pre st => found <+: st.2 ∧ Ord t (found.take n) st.1 st.2 fun p => if p.2 = a ∧ p.1 ∈ pre then need t (found.take n ++ [(a, b)]) p.1 p.2 else need t (found.take n) p.1 p.2)
    ⟨List.prefix_refl _, { I with
      get := fun p hp => by rw [if_neg fun z => nomatch z.2]; exact I.get p hp
      iff := fun p hp => by rw [if_neg fun z => nomatch z.2]; exact I.iff p hp }⟩ fun pre c post st ea ⟨hpre, J⟩ => by
      obtain ⟨lf, fd⟩ := st
      have hc : c ∈ nearOf t.2 a := by rw [ea]; simp
      have hcp : c ∉ pre := fun z => by
        have nd := nr_nd ht a
        rw [ea, List.nodup_append] at nd
        exact nd.2.2 c z c List.mem_cons_self rfl
      have hbr : (c, a) ∈ brs t := (brs_mem ht).mpr ((nr_sym ht).mpr hc)
      have other : ∀ p : Int × Int, p ≠ (c, a) → (if p.2 = a ∧ p.1 ∈ pre ++ [c] then need t (found.take n ++ [(a, b)]) p.1 p.2 else need t (found.take n) p.1 p.2) = (if p.2 = a ∧ p.1 ∈ pre then need t (found.take n ++ [(a, b)]) p.1 p.2 else need t (found.take n) p.1 p.2) := fun p hp => by
        by_cases z : p.2 = a ∧ p.1 ∈ pre
        · rw [if_pos z, if_pos ⟨z.1, List.mem_append_left _ z.2⟩]
        · rw [if_neg z, if_neg]
          rintro ⟨z1, z2⟩
          rcases List.mem_append.mp z2 with z2 | z2
          · exact z ⟨z1, z2⟩
          · exact hp (Prod.ext (List.mem_singleton.mp z2) z1)
      have mine : (if ((c, a) : Int × Int).2 = a ∧ ((c, a) : Int × Int).1 ∈ pre ++ [c] then need t (found.take n ++ [(a, b)]) c a else need t (found.take n) c a) = need t (found.take n ++ [(a, b)]) c a := if_pos ⟨rfl, by simp⟩
      have mine0 : (if ((c, a) : Int × Int).2 = a ∧ ((c, a) : Int × Int).1 ∈ pre then need t (found.take n ++ [(a, b)]) c a else need t (found.take n) c a) = need t (found.take n) c a := if_neg fun z => hcp z.2
      by_cases hcb : c = b
      · refine ⟨(lf, fd), by unfold turnO; rw [if_neg fun z => z hcb], hpre, { J with get := fun p hp => ?_, iff := fun p hp => ?_ }⟩
        · by_cases z : p = (c, a)
          · subst z
            rw [mine, need_same (.inr hcb), ← mine0]
            exact J.get _ hp
          · rw [other p z]; exact J.get p hp
        · by_cases z : p = (c, a)
          · subst z
            rw [mine, need_same (.inr hcb), ← mine0]
            exact J.iff _ hp
          · rw [other p z]; exact J.iff p hp
      · have g0 : dGet lf (c, a) = some ((need t (found.take n) c a : Nat) : Int) := by rw [← mine0]; exact J.get _ hbr
        have hl := need_less ht hb hcb hnot
        have hz : ((need t (found.take n) c a : Nat) : Int) - 1 = ((need t (found.take n ++ [(a, b)]) c a : Nat) : Int) := by omega
        have hlf : lf.length = (brs t).length := by rw [← J.keys, List.length_map]
        have hni : (c, a) ∉ fd := fun z => by
          have := (J.iff _ hbr).mp z
          rw [mine0] at this
          omega
        have g1 : ∀ p, dGet (dPut lf (c, a) ((need t (found.take n ++ [(a, b)]) c a : Nat) : Int)) p = if p = (c, a) then some ((need t (found.take n ++ [(a, b)]) c a : Nat) : Int) else dGet lf p := fun p => dGet_put
        have k1 : (dPut lf (c, a) ((need t (found.take n ++ [(a, b)]) c a : Nat) : Int)).map (·.1) = brs t := by rw [dPut_keys (by rw [J.keys]; exact hbr), J.keys]
        have get : ∀ p ∈ brs t, dGet (dPut lf (c, a) ((need t (found.take n ++ [(a, b)]) c a : Nat) : Int)) p = some (((if p.2 = a ∧ p.1 ∈ pre ++ [c] then need t (found.take n ++ [(a, b)]) p.1 p.2 else need t (found.take n) p.1 p.2) : Nat) : Int) := fun p hp => by
          rw [g1]
          by_cases z : p = (c, a)
          · subst z; rw [if_pos rfl, mine]
          · rw [if_neg z, other p z]; exact J.get p hp
        have fl : fd.length ≤ (brs t).length := nd_sub_len J.nd J.sub
        have step : turnO a b c (lf, fd) = if ((need t (found.take n ++ [(a, b)]) c a : Nat) : Int) = 0 then .ok (dPut lf (c, a) ((need t (found.take n ++ [(a, b)]) c a : Nat) : Int), fd ++ [(c, a)]) else .ok (dPut lf (c, a) ((need t (found.take n ++ [(a, b)]) c a : Nat) : Int), fd) := by
          unfold turnO
          rw [if_pos hcb, opt_b (show dGet (lf, fd).1 (((c, a) : Int × Int).1, ((c, a) : Int × Int).2) = _ from g0), hz, bind_ok (putD_ok (show (lf, fd).1.length < 16777216 by show lf.length < _; omega)), opt_b (show dGet (dPut (lf, fd).1 (((c, a) : Int × Int).1, ((c, a) : Int × Int).2) _) (c, a) = _ from (g1 _).trans (if_pos rfl))]
          by_cases z : ((need t (found.take n ++ [(a, b)]) c a : Nat) : Int) = 0
          · rw [if_pos z, if_pos z, bind_ok (appL_ok (show (lf, fd).2.length < 16777216 by show fd.length < _; omega))]
          · rw [if_neg z, if_neg z]
        by_cases z : ((need t (found.take n ++ [(a, b)]) c a : Nat) : Int) = 0
        · refine ⟨(_, fd ++ [(c, a)]), step.trans (if_pos z), hpre.trans (List.prefix_append _ _), ?_⟩
          have z' : need t (found.take n ++ [(a, b)]) c a = 0 := by omega
          have hfl : found.length ≤ fd.length := hpre.length_le
          have htk : fd.take (n + 1) = found.take n ++ [(a, b)] := by
            rw [← hD']
            obtain ⟨r, rfl⟩ := hpre
            rw [take_app _ (by omega)]
          exact {
            nd := List.nodup_append.mpr ⟨J.nd, by simp, fun x hx y hy e => hni (by rw [List.mem_singleton] at hy; rw [← hy, ← e]; exact hx)⟩
            sub := fun p hp => by
              rcases List.mem_append.mp hp with hp | hp
              · exact J.sub p hp
              · rw [List.mem_singleton.mp hp]; exact hbr
            keys := k1
            get := get
            iff := fun p hp => by
              by_cases q : p = (c, a)
              · subst q; rw [mine]; exact ⟨fun _ => z', fun _ => by simp⟩
              · rw [other p q]
                exact ⟨fun h => (J.iff p hp).mp ((List.mem_append.mp h).resolve_right fun h => q (List.mem_singleton.mp h)), fun h => List.mem_append_left _ ((J.iff p hp).mpr h)⟩
            bh := J.bh.snoc (n := n + 1) (by omega) (by rw [htk]; exact z') }
        · refine ⟨(_, fd), step.trans (if_neg z), hpre, ?_⟩
          exact { J with
            keys := k1
            get := get
            iff := fun p hp => by
              by_cases q : p = (c, a)
              · subst q; rw [mine]
                exact ⟨fun h => (hni h).elim, fun h => (z (by omega)).elim⟩
              · rw [other p q]; exact J.iff p hp }
  obtain ⟨left', found'⟩ := st
  obtain ⟨hpre, J⟩ := hP
  have htk : found'.take (n + 1) = found.take n ++ [(a, b)] := by
    rw [← hD']
    obtain ⟨r, rfl⟩ := hpre
    rw [take_app _ (by omega)]
  have cn : ∀ p ∈ brs t, (if p.2 = a ∧ p.1 ∈ nearOf t.2 a then need t (found.take n ++ [(a, b)]) p.1 p.2 else need t (found.take n) p.1 p.2) = need t (found'.take (n + 1)) p.1 p.2 := fun p hp => by
    rw [htk]
    by_cases z : p.2 = a
    · rw [if_pos ⟨z, by rw [← z]; exact (nr_sym ht).mp ((brs_mem ht).mp hp)⟩]
    · rw [if_neg fun q => z q.1, need_same (.inl z)]
  exact ⟨left', found', e, hpre, { J with get := fun p hp => by rw [← cn p hp]; exact J.get p hp, iff := fun p hp => by rw [← cn p hp]; exact J.iff p hp }⟩
theorem orders_ok (t : Tr) (ht : TreeOk t) (hn : t.1.length ≤ 100000) : ∃ od, m_order_of (nearAll t.1.length t.2) (brs t) = .ok od ∧ od.Nodup ∧ (∀ p, p ∈ od ↔ p ∈ brs t) ∧ Behind t od := by
  have hlen := ht.len
  have bl := brs_len (t := t)
  obtain ⟨w, hw⟩ := weight_tree ht
  have rg : ∀ p ∈ brs t, (0 ≤ p.1 ∧ p.1 < (t.1.length : Int)) ∧ (0 ≤ p.2 ∧ p.2 < (t.1.length : Int)) := fun p hp => by
    obtain ⟨c, hc⟩ := (near_step ht).mp ((brs_mem ht).mp hp)
    have := step_rg ht hc
    exact ⟨this.1, this.2.1⟩
  have near_at : ∀ x : Int, 0 ≤ x → x < (t.1.length : Int) → L2.atI (nearAll t.1.length t.2) x = some (nearOf t.2 x) := fun x h0 h1 => nearAll_at h0 (by omega)
  unfold m_order_of
  rw [bind_ok (compS_pure (fun p => some ((p.1, p.2), (((nearOf t.2 p.2).length : Int) - (1 : Int)))) (by omega) fun p hp => by
    rw [opt_b (near_at p.2 (rg p hp).2.1 (rg p hp).2.2)])]
  rw [List.filterMap_eq_map']
  have e0 : mergeDT ((brs t).map fun p => ((p.1, p.2), (((nearOf t.2 p.2).length : Int) - (1 : Int)))) = (brs t).map fun p => ((p.1, p.2), (((nearOf t.2 p.2).length : Int) - (1 : Int))) := by
    unfold mergeDT
    rw [merge_newT (by rw [List.nil_append, List.map_map]; exact (List.map_id (brs t)).symm ▸ brs_nd ht)]
    rfl
  have k0 : ((brs t).map fun p => ((p.1, p.2), (((nearOf t.2 p.2).length : Int) - (1 : Int)))).map (·.1) = brs t := by rw [List.map_map]; exact List.map_id (brs t)
  have g0 : ∀ p ∈ brs t, dGet ((brs t).map fun p => ((p.1, p.2), (((nearOf t.2 p.2).length : Int) - (1 : Int)))) p = some ((need t [] p.1 p.2 : Nat) : Int) := fun p hp => by
    rw [need_nil ht ((nr_sym ht).mp ((brs_mem ht).mp hp))]
    exact dGet_mem (by rw [k0]; exact brs_nd ht) (List.mem_map.mpr ⟨p, hp, rfl⟩)
  rw [e0]
  rw [bind_ok (compS_pure (fun p => if need t [] p.1 p.2 = 0 then some p else none) (by omega) fun p hp => by
    show (opt (dGet ((brs t).map fun p => ((p.1, p.2), (((nearOf t.2 p.2).length : Int) - (1 : Int)))) p) >>= _) = _
    rw [opt_b (g0 p hp)]
    by_cases z : need t [] p.1 p.2 = 0
    · rw [if_pos z, if_pos (by omega)]
    · rw [if_neg z, if_neg (by omega)])]
  have ef : (brs t).filterMap (fun p => if need t [] p.1 p.2 = 0 then some p else none) = (brs t).filter fun p => decide (need t [] p.1 p.2 = 0) := by
    rw [← List.filterMap_eq_filter]
    refine fm_congr fun p _ => ?_
    by_cases z : need t [] p.1 p.2 = 0 <;> simp [z, Option.guard]
  rw [ef]
  have I0 : Ord t [] ((brs t).map fun p => ((p.1, p.2), (((nearOf t.2 p.2).length : Int) - (1 : Int)))) ((brs t).filter fun p => decide (need t [] p.1 p.2 = 0)) fun p => need t [] p.1 p.2 := {
    nd := (brs_nd ht).filter _
    sub := fun p hp => (List.mem_filter.mp hp).1
    keys := k0
    get := g0
    iff := fun p hp => by rw [List.mem_filter]; exact ⟨fun h => of_decide_eq_true h.2, fun h => ⟨hp, decide_eq_true h⟩⟩
    bh := fun j p e c hc hx => by
      have h := of_decide_eq_true (List.mem_filter.mp (List.mem_of_getElem? e)).2
      exact nomatch need_zero.mp h c hc hx }
  obtain ⟨st, e, hQ⟩ := whL_run (r := Unit) (b := fun (st162 : Int × (List ((Int × Int) × Int)) × (List (Int × Int))) =>
    if st162.1 < (st162.2.2.length : Int) then (
    opt (atI st162.2.2 st162.1) >>= fun y174 =>
    opt (atI (nearAll t.1.length t.2) y174.1) >>= fun y191 =>
    loopN (turnO y174.1 y174.2) y191 (st162.2.1, st162.2.2) >>= fun st280 =>
    .ok (.go ((st162.1 + (1 : Int)), st280.1, st280.2)))
    else (
    .ok (.stop (st162.1, st162.2.1, st162.2.2))))
    (fun st => ∃ n : Nat, st.1 = (n : Int) ∧ n ≤ st.2.2.length ∧ Ord t (st.2.2.take n) st.2.1 st.2.2 fun p => need t (st.2.2.take n) p.1 p.2)
    (fun st => (brs t).length - st.1.toNat)
    (fun st => Ord t st.2.2 st.2.1 st.2.2 fun p => need t st.2.2 p.1 p.2) (fun st hst => by
      obtain ⟨at_, left, found⟩ := st
      obtain ⟨n, h1, h2, I⟩ := hst
      have h1 : at_ = (n : Int) := h1
      have h2 : n ≤ found.length := h2
      have I : Ord t (found.take n) left found fun p => need t (found.take n) p.1 p.2 := I
      subst h1
      have fl : found.length ≤ (brs t).length := nd_sub_len I.nd I.sub
      by_cases z : n < found.length
      · left
        obtain ⟨⟨a, b⟩, hab⟩ : ∃ p, found[n]? = some p := ⟨found[n], List.getElem?_eq_getElem z⟩
        have hbr := I.sub _ (List.mem_of_getElem? hab)
        have hb := (brs_mem ht).mp hbr
        obtain ⟨left', found', e, hpre, J⟩ := inner_ok ht hn hb hab I
        have hfl := hpre.length_le
        refine ⟨((n : Int) + 1, left', found'), ?_, ⟨n + 1, rfl, (show n + 1 ≤ found'.length by omega), J⟩, show (brs t).length - ((n : Int) + 1).toNat < (brs t).length - ((n : Nat) : Int).toNat by omega⟩
        show (if ((n : Nat) : Int) < (found.length : Int) then _ else _) = _
        rw [if_pos (by omega), opt_b (show L2.atI found ((n : Nat) : Int) = some (a, b) by rw [atI_nat]; exact hab)]
        show (opt (atI (nearAll t.1.length t.2) a) >>= _) = _
        rw [opt_b (near_at a (rg _ hbr).1.1 (rg _ hbr).1.2)]
        show (loopN (turnO a b) (nearOf t.2 a) (left, found) >>= _) = _
        rw [bind_ok e]
      · right
        refine ⟨_, by show (if ((n : Nat) : Int) < (found.length : Int) then _ else _) = _; rw [if_neg (by omega)], ?_⟩
        have hn2 : n = found.length := by omega
        rw [hn2, List.take_length] at I
        exact I) 1000000 (0, (brs t).map (fun (p : Int × Int) => ((p.1, p.2), (((nearOf t.2 p.2).length : Int) - (1 : Int)))), (brs t).filter fun p => decide (need t [] p.1 p.2 = 0)) ⟨0, rfl, Nat.zero_le _, I0⟩ (show (brs t).length - (0 : Int).toNat < 1000000 by omega)
  obtain ⟨at_, left, found⟩ := st
  have J : Ord t found left found fun p => need t found p.1 p.2 := hQ
  refine ⟨found, ?_, J.nd, fun p => ⟨J.sub p, fun hp => ?_⟩, J.bh⟩
  · exact bind_ok e _
  · have all : ∀ (N : Nat) (p : Int × Int), p ∈ brs t → w p.1 p.2 ≤ N → p ∈ found := fun N => by
      induction N with
      | zero =>
        intro p hp hN
        have := (hw p.1 p.2 ((nr_sym ht).mp ((brs_mem ht).mp hp))).1
        omega
      | succ N ih =>
        intro p hp hN
        refine (J.iff p hp).mpr (need_zero.mpr fun c hc hx => ih (p.2, c) ((brs_mem ht).mpr hc) ?_)
        have h1 := (hw p.1 p.2 ((nr_sym ht).mp ((brs_mem ht).mp hp))).1
        have h2 := sumF_mem (f := w p.2) (List.mem_filter.mpr ⟨hc, decide_eq_true hx⟩ : c ∈ (nearOf t.2 p.2).filter fun c => decide (c ≠ p.1))
        show w p.2 c ≤ N
        omega
    exact all _ p hp (Nat.le_refl _)

/-! ### all rows at once -/
theorem bind_inv {a b : Type} {m : M a} {k : a → M b} {y : b} (h : (m >>= k) = .ok y) : ∃ x, m = .ok x ∧ k x = .ok y := by
  cases m with
  | ok x => exact ⟨x, rfl, h⟩
  | error e => exact nomatch h
theorem opt_inv {a b : Type} {o : Option a} {k : a → M b} {y : b} (h : (opt o >>= k) = .ok y) : ∃ x, o = some x ∧ k x = .ok y := by
  obtain ⟨x, h1, h2⟩ := bind_inv h
  cases o with
  | some z => exact ⟨z, rfl, by cases h1; exact h2⟩
  | none => exact nomatch h1
def subs (t : Tr) (a b : Int) : List Int := (nearOf t.2 b).filter fun c => decide (c ≠ a)
/-- f tells the rows -/
structure RowsF (t : Tr) (r : Rule) (many : Int) (w : Int → Int → Nat) (f : Int → Int → List Int) : Prop where
  sum : ∀ q, 0 ≤ q → q < (t.1.length : Int) → sumF (nearOf t.2 q) (w q) ≤ t.1.length
  law : ∀ a b l, Step t a b l → ∀ k, 80 ≤ k → m_law_branch k t r a b l = .ok (f a b)
  down : ∀ a b l, Step t a b l → ∀ k, 40 ≤ k → m_row_down k t r (nearAll t.1.length t.2) (lenOf t.2) (a, b) = .ok (f a b)
  len : ∀ a b l, Step t a b l → ((f a b).length : Int) = many
  pos : ∀ a b l, Step t a b l → 1 ≤ w a b
  bnd : ∀ a b l, Step t a b l → ∀ v ∈ f a b, v.natAbs < 2 ^ (700 * w a b - 220)
  prog : ∀ a b l, Step t a b l → ∃ so own, m_row_with t r b ((subs t a b).map (f b)) = .ok so ∧ atI t.1 b = some own ∧ m_over_tie r so own l = .ok (f a b)
theorem step_sym {t : Tr} {a b l : Int} (h : Step t a b l) : Step t b a l := by
  obtain ⟨z, hz, h, e⟩ := h
  exact ⟨z, hz, by omega, e⟩
theorem rowsF (t : Tr) (ht : TreeOk t) (hn : t.1.length ≤ 40) {r : Rule} {many : Int} (R : RuleOk r many) (hw1 : ∀ x ∈ t.1, x.natAbs < 2 ^ 100) (hw2 : ∀ x ∈ t.2, x.c.natAbs < 2 ^ 100) : ∃ w f, RowsF t r many w f := by
  obtain ⟨w, hq, hw⟩ := weight_tree2 ht
  have hlen := ht.len
  have ex : ∀ p : Int × Int, ∃ row : List Int, ∀ l, Step t p.1 p.2 l → (∀ k, 40 ≤ k → m_row_down k t r (nearAll t.1.length t.2) (lenOf t.2) (p.1, p.2) = .ok row) ∧ (∀ k, 80 ≤ k → m_law_branch k t r p.1 p.2 l = .ok row) ∧ (row.length : Int) = many ∧ 1 ≤ w p.1 p.2 ∧ ∀ v ∈ row, v.natAbs < 2 ^ (700 * w p.1 p.2 - 220) := fun p => by
    by_cases h : ∃ l, Step t p.1 p.2 l
    · obtain ⟨l, hs⟩ := h
      have hl := (hw p.1 p.2 ((near_step ht).mpr ⟨l, step_sym hs⟩)).2
      obtain ⟨row, h1, h2, h3⟩ := rows_ok t ht hn R hw1 hw2 w hw 40 p.1 p.2 l hs (by omega)
      refine ⟨row, fun l' hs' => ?_⟩
      have : l' = l := (step_ln ht hs').symm.trans (step_ln ht hs)
      subst this
      exact ⟨h1, h2, h3⟩
    · exact ⟨[], fun l hs => (h ⟨l, hs⟩).elim⟩
  obtain ⟨g, hg⟩ := Classical.skolem.mp ex
  refine ⟨w, fun a b => g (a, b), { sum := hq, law := fun a b l h => (hg (a, b) l h).2.1, down := fun a b l h => (hg (a, b) l h).1, len := fun a b l h => (hg (a, b) l h).2.2.1, pos := fun a b l h => (hg (a, b) l h).2.2.2.1, bnd := fun a b l h => (hg (a, b) l h).2.2.2.2, prog := fun a b l h => ?_ }⟩
  have rg := (step_rg ht h).2.1
  have e := (hg (a, b) l h).1 41 (by decide)
  have hnl : (nearOf t.2 b).length ≤ t.2.length := by
    unfold nearOf
    rw [sortT_len]
    exact List.length_filterMap_le _ _
  change m_row_down (40 + 1) t r (nearAll t.1.length t.2) (lenOf t.2) (a, b) = _ at e
  unfold m_row_down at e
  rw [opt_b (show L2.atI (nearAll t.1.length t.2) b = some (nearOf t.2 b) from nearAll_at rg.1 (by omega))] at e
  rw [bind_ok (compS_pure (fun c => if c ≠ a then some (g (b, c)) else none) (by omega) fun c hc => by
    show (if c ≠ a then _ else _) = _
    by_cases z : c ≠ a
    · rw [if_pos z, if_pos z]
      obtain ⟨lc, hsc⟩ := (near_step ht).mp hc
      show (m_row_down 40 t r (nearAll t.1.length t.2) (lenOf t.2) (b, c) >>= _) = _
      rw [bind_ok ((hg (b, c) lc hsc).1 40 (Nat.le_refl _))]
    · rw [if_neg z, if_neg z])] at e
  have ef : (nearOf t.2 b).filterMap (fun c => if c ≠ a then some (g (b, c)) else none) = (subs t a b).map fun c => g (b, c) := by
    unfold subs
    rw [← List.filterMap_eq_map', List.filterMap_filter]
    refine fm_congr fun c _ => ?_
    by_cases z : c ≠ a
    · rw [if_pos z, if_pos (decide_eq_true z)]
    · rw [if_neg z, if_neg (by simpa using z)]
  rw [ef] at e
  obtain ⟨so, e1, e⟩ := bind_inv e
  obtain ⟨own, e2, e⟩ := opt_inv e
  obtain ⟨l', e3, e⟩ := opt_inv e
  obtain ⟨row, e4, e⟩ := bind_inv e
  cases e
  have : l' = l := Option.some.inj (e3.symm.trans (step_len ht h))
  subst this
  exact ⟨so, own, e1, e2, e4⟩
theorem rows_known_ok (t : Tr) (ht : TreeOk t) (hn : t.1.length ≤ 100000) {r : Rule} {many : Int} {w : Int → Int → Nat} {f : Int → Int → List Int} (RF : RowsF t r many w f) :
    ∃ rows, m_rows_known t r = .ok rows ∧ ∀ a b l, Step t a b l → dGet rows (a, b) = some (f a b) := by
  have hlen := ht.len
  have bl := brs_len (t := t)
  obtain ⟨od, o1, o2, o3, o4⟩ := orders_ok t ht hn
  have odl : od.length ≤ (brs t).length := nd_sub_len o2 fun p hp => (o3 p).mp hp
  unfold m_rows_known
  rw [bind_ok (tied_places_ok (t.1.length : Int) t.2 (by omega) (by omega) (by omega) ht.tie)]
  rw [show ((t.1.length : Int)).toNat = t.1.length from rfl]
  rw [bind_ok (lengths_ok t ht (by omega)), bind_ok (show m_every_branch t = .ok (brs t) by unfold m_every_branch; rw [bind_ok (lengths_ok t ht (by omega))]; rfl), bind_ok o1]
  obtain ⟨rows, e, h1, h2⟩ := loopN_run (f := fun (y89 : (Int × Int)) (st100 : (List ((Int × Int) × (List Int)))) =>
    opt (atI (nearAll t.1.length t.2) y89.2) >>= fun y122 =>
    compS (fun (y132 : Int) (st149 : Unit) =>
    if y132 ≠ y89.1 then (
    opt (dGet st100 (y89.2, y132)) >>= fun y163 =>
    .ok (some y163, ()))
    else (
    .ok (none, ()))) y122 () >>= fun q186 =>
    m_row_with t r y89.2 q186.1 >>= fun r192 =>
    opt (atI t.1 y89.2) >>= fun y205 =>
    opt (dGet (lenOf t.2) (y89.1, y89.2)) >>= fun y222 =>
    m_over_tie r r192 y205 y222 >>= fun r234 =>
    putD st100 ((y89.1, y89.2).1, (y89.1, y89.2).2) r234 >>= fun z268 =>
    .ok z268) (all := od) (x := []) (fun pre st => (∀ p ∈ pre, dGet st p = some (f p.1 p.2)) ∧ st.length ≤ pre.length) ⟨(fun _ h => nomatch h), Nat.le_refl _⟩ fun pre y post st ea ⟨h1, h2⟩ => by
      obtain ⟨a, b⟩ := y
      have hbr : (a, b) ∈ brs t := (o3 _).mp (by rw [ea]; simp)
      obtain ⟨l, hs⟩ := (near_step ht).mp ((brs_mem ht).mp hbr)
      have rg := (step_rg ht hs).2.1
      have hnl : (nearOf t.2 b).length ≤ t.2.length := by
        unfold nearOf
        rw [sortT_len]
        exact List.length_filterMap_le _ _
      have hod : od[pre.length]? = some (a, b) := by rw [ea, List.getElem?_append_right (Nat.le_refl _), Nat.sub_self]; rfl
      have htk : od.take pre.length = pre := by rw [ea]; simp
      have hb := o4 _ _ hod
      rw [htk] at hb
      obtain ⟨so, own, p1, p2, p3⟩ := RF.prog a b l hs
      have hpl : pre.length < od.length := (List.getElem?_eq_some_iff.mp hod).1
      refine ⟨dPut st (a, b) (f a b), ?_, fun p hp => ?_, ?_⟩
      · show (opt (atI (nearAll t.1.length t.2) b) >>= _) = _
        rw [opt_b (show L2.atI (nearAll t.1.length t.2) b = some (nearOf t.2 b) from nearAll_at rg.1 (by omega))]
        rw [bind_ok (compS_pure (fun c => if c ≠ a then some (f b c) else none) (by omega) fun c hc => by
          show (if c ≠ a then _ else _) = _
          by_cases z : c ≠ a
          · rw [if_pos z, if_pos z]
            show (opt (dGet st (b, c)) >>= _) = _
            rw [opt_b (h1 _ (hb c hc z))]
          · rw [if_neg z, if_neg z])]
        have ef : (nearOf t.2 b).filterMap (fun c => if c ≠ a then some (f b c) else none) = (subs t a b).map (f b) := by
          unfold subs
          rw [← List.filterMap_eq_map', List.filterMap_filter]
          refine fm_congr fun c _ => ?_
          by_cases z : c ≠ a
          · rw [if_pos z, if_pos (decide_eq_true z)]
          · rw [if_neg z, if_neg (by simpa using z)]
        rw [ef]
        show (m_row_with t r b _ >>= _) = _
        rw [bind_ok p1]
        show (opt (atI t.1 b) >>= _) = _
        rw [opt_b p2]
        show (opt (dGet (lenOf t.2) (a, b)) >>= _) = _
        rw [opt_b (step_len ht hs), bind_ok p3]
        show (putD st (a, b) (f a b) >>= _) = _
        rw [bind_ok (putD_ok (by omega))]
      · rw [dGet_put]
        rcases List.mem_append.mp hp with hp | hp
        · by_cases z : p = (a, b)
          · subst z; rw [if_pos rfl]
          · rw [if_neg z]; exact h1 p hp
        · rw [List.mem_singleton.mp hp, if_pos rfl]
      · rw [List.length_append, List.length_singleton]
        unfold dPut
        split
        · rw [List.length_map]; omega
        · rw [List.length_append, List.length_singleton]; omega
  refine ⟨rows, (bind_ok e _).trans rfl, fun a b l hs => h1 (a, b) ((o3 _).mpr ((brs_mem ht).mpr ((near_step ht).mpr ⟨l, hs⟩)))⟩
/-- a seat by f, by the program and by the law -/
theorem seatF (t : Tr) (ht : TreeOk t) (hn : t.1.length ≤ 40) {r : Rule} {many : Int} (R : RuleOk r many) (hw1 : ∀ x ∈ t.1, x.natAbs < 2 ^ 100) {w : Int → Int → Nat} {f : Int → Int → List Int} (RF : RowsF t r many w f) (p : Int) (p0 : 0 ≤ p) (p1 : p < (t.1.length : Int)) :
    ∃ so own v, atI t.1 p = some own ∧ m_row_with t r p ((nearOf t.2 p).map (f p)) = .ok so ∧ m_told_by r so own = .ok v ∧ m_law_seat t r p = .ok v := by
  have hlen := ht.len
  obtain ⟨own, o1, o2⟩ := atI_some (xs := t.1) (j := p) p0 p1
  have ho := hw1 own (List.mem_of_getElem? o2)
  have R1 := R.m2
  have Ra := R.la
  obtain ⟨so0, j1, j2, j3, j4⟩ := evalL (evB (many := many) ho) R.ga (by omega)
  have fall : ((nearOf t.2 p).filter fun c => decide (some c ≠ (none : Option Int))) = nearOf t.2 p := List.filter_eq_self.mpr fun c _ => by simp
  have hs := RF.sum p p0 p1
  have z := fold_ok R ho none t p (f p) (w p) (fun y => m_law_branch 99 t r p y.1 y.2) (nearOf t.2 p) so0 205 (fun c hc _ => by
    obtain ⟨lc, hsc⟩ := (near_step ht).mp hc
    rw [step_ln ht hsc]
    exact ⟨RF.law p c lc hsc 99 (by decide), RF.len p c lc hsc, RF.pos p c lc hsc, RF.bnd p c lc hsc⟩) (by omega) j4 (by decide) (by rw [fall]; omega)
  rw [fall] at z
  obtain ⟨so', i1, i2, i3, i4⟩ := z
  obtain ⟨v, v1, v2, _⟩ := eval2 (evT (many := many) ho i3 i4 (by omega) (by omega)) 12 3 r.d (by decide) (by decide) R.gd
  refine ⟨so', own, v, o1, ?_, ?_, ?_⟩
  · unfold m_row_with
    rw [opt_b o1, bind_ok (show m_begun r own = .ok so0 by
      unfold m_begun
      rw [bind_ok (j1 _ fun y v hv => by rw [bind_ok hv])]), bind_ok i1]
  · unfold m_told_by
    rw [bind_ok v1]
  · unfold m_law_seat
    rw [opt_b o1]
    rw [bind_ok (show m_law_row 100 t r p none = .ok so' by
      show m_law_row (99 + 1) t r p none = .ok so'
      unfold m_law_row
      rw [opt_b o1, bind_ok (j2 _ fun y v hv => by rw [bind_ok hv]), bind_ok (near_ok t ht (by omega) p), bind_ok i2])]
    rw [bind_ok v2]

theorem enumL_mem {b : Type} {xs : List b} {y : Int × b} (h : y ∈ enumL xs) : 0 ≤ y.1 ∧ y.1 < (xs.length : Int) ∧ xs[y.1.toNat]? = some y.2 := by
  unfold enumL at h
  obtain ⟨q, hq, e⟩ := List.mem_map.mp h
  obtain ⟨h1, h2, h3⟩ := List.mem_zipIdx hq
  subst e
  show (0 : Int) ≤ (q.2 : Int) ∧ (q.2 : Int) < (xs.length : Int) ∧ xs[((q.2 : Int)).toNat]? = some q.1
  have h2 : q.2 < xs.length := by omega
  refine ⟨by omega, by omega, ?_⟩
  rw [Int.toNat_natCast, List.getElem?_eq_getElem h2, h3]
  simp
theorem seats_by_ok (t : Tr) (ht : TreeOk t) (hn : t.1.length ≤ 40) {r : Rule} {many : Int} (R : RuleOk r many) (hw1 : ∀ x ∈ t.1, x.natAbs < 2 ^ 100) {w : Int → Int → Nat} {f : Int → Int → List Int} (RF : RowsF t r many w f)
    {rows : List ((Int × Int) × List Int)} (hr : ∀ a b l, Step t a b l → dGet rows (a, b) = some (f a b)) {g : Int → Int} (hg : ∀ p, 0 ≤ p → p < (t.1.length : Int) → m_law_seat t r p = .ok (g p)) :
    m_seats_by t r rows = .ok ((rangeL 0 (t.1.length : Int)).map g) := by
  have hlen := ht.len
  unfold m_seats_by
  rw [bind_ok (tied_places_ok (t.1.length : Int) t.2 (by omega) (by omega) (by omega) ht.tie)]
  rw [show ((t.1.length : Int)).toNat = t.1.length from rfl]
  obtain ⟨st, e, h⟩ := loopN_run (f := fun (y43 : (Int × Int)) (st54 : (List Int)) =>
    opt (atI (nearAll t.1.length t.2) y43.1) >>= fun y88 =>
    compS (fun (y98 : Int) (st115 : Unit) =>
    opt (dGet rows (y43.1, y98)) >>= fun y133 =>
    .ok (some y133, ())) y88 () >>= fun q156 =>
    m_row_with t r y43.1 q156.1 >>= fun r162 =>
    m_told_by r r162 y43.2 >>= fun r170 =>
    appL st54 r170 >>= fun _ =>
    .ok (st54 ++ [r170])) (all := enumL t.1) (x := []) (fun pre st => st = pre.map fun y => g y.1) rfl fun pre y post st ea es => by
      obtain ⟨p, own⟩ := y
      have hy : (p, own) ∈ enumL t.1 := by rw [ea]; simp
      obtain ⟨p0, p1, hp⟩ := enumL_mem hy
      have p0 : 0 ≤ p := p0
      have p1 : p < (t.1.length : Int) := p1
      obtain ⟨so, own', v, q1, q2, q3, q4⟩ := seatF t ht hn R hw1 RF p p0 p1
      obtain ⟨ow, w1, w2⟩ := atI_some (xs := t.1) (j := p) p0 p1
      have : own' = own := by
        have h1 : ow = own := Option.some.inj (w2.symm.trans hp)
        exact (Option.some.inj (q1.symm.trans w1)).trans h1
      subst this
      have hv : v = g p := by
        have := hg p p0 p1
        rw [q4] at this
        exact Except.ok.inj this
      subst hv
      have hnl : (nearOf t.2 p).length ≤ t.2.length := by
        unfold nearOf
        rw [sortT_len]
        exact List.length_filterMap_le _ _
      have hpl : pre.length < (enumL t.1).length := by rw [ea]; simp
      rw [enumL_len] at hpl
      refine ⟨st ++ [g p], ?_, by rw [es, List.map_append]; rfl⟩
      show (opt (atI (nearAll t.1.length t.2) p) >>= _) = _
      rw [opt_b (show L2.atI (nearAll t.1.length t.2) p = some (nearOf t.2 p) from nearAll_at p0 (by omega))]
      rw [bind_ok (compS_pure (fun c => some (f p c)) (by omega) fun c hc => by
        obtain ⟨lc, hsc⟩ := (near_step ht).mp hc
        show (opt (dGet rows (p, c)) >>= _) = _
        rw [opt_b (hr p c lc hsc)])]
      rw [List.filterMap_eq_map']
      show (m_row_with t r p _ >>= _) = _
      rw [bind_ok q2]
      show (m_told_by r so own' >>= _) = _
      rw [bind_ok q3, bind_ok (appL_ok (by rw [es, List.length_map]; omega))]
  rw [bind_ok e, h]
  have he : (enumL t.1).map (fun y => g y.1) = (rangeL 0 (t.1.length : Int)).map g := by
    unfold enumL rangeL
    rw [List.map_map, List.map_map]
    have h1 : (t.1.zipIdx.map fun p => g ((p.2 : Nat) : Int)) = (t.1.zipIdx.map Prod.snd).map fun (i : Nat) => g (i : Int) := by rw [List.map_map]; rfl
    show (t.1.zipIdx.map fun p => g ((p.2 : Nat) : Int)) = _
    rw [h1, List.zipIdx_map_snd, ← List.range_eq_range']
    rw [show ((t.1.length : Int) - 0).toNat = t.1.length by omega]
    refine List.map_congr_left fun i _ => ?_
    show g (i : Int) = g (0 + (i : Int))
    rw [Int.zero_add]
  rw [he]
theorem all_seats_ok (t : Tr) (ht : TreeOk t) (hn : t.1.length ≤ 40) {r : Rule} {many : Int} (R : RuleOk r many) (hw1 : ∀ x ∈ t.1, x.natAbs < 2 ^ 100) (hw2 : ∀ x ∈ t.2, x.c.natAbs < 2 ^ 100) :
    ∃ g : Int → Int, (∀ p, 0 ≤ p → p < (t.1.length : Int) → m_law_seat t r p = .ok (g p)) ∧ m_all_seats t r = .ok ((rangeL 0 (t.1.length : Int)).map g) := by
  obtain ⟨w, f, RF⟩ := rowsF t ht hn R hw1 hw2
  obtain ⟨rows, h1, h2⟩ := rows_known_ok t ht (by omega) RF
  have ex : ∀ p, ∃ v : Int, 0 ≤ p → p < (t.1.length : Int) → m_law_seat t r p = .ok v := fun p => by
    by_cases h : 0 ≤ p ∧ p < (t.1.length : Int)
    · obtain ⟨_, _, v, _, _, _, hv⟩ := seatF t ht hn R hw1 RF p h.1 h.2
      exact ⟨v, fun _ _ => hv⟩
    · exact ⟨0, fun a b => (h ⟨a, b⟩).elim⟩
  obtain ⟨g, hg⟩ := Classical.skolem.mp ex
  refine ⟨g, hg, ?_⟩
  unfold m_all_seats
  rw [bind_ok (show m_need_rule r = .ok () by unfold m_need_rule; rw [bind_ok (is_rule_ok R), if_pos rfl])]
  rw [bind_ok h1, bind_ok (seats_by_ok t ht hn R hw1 RF h2 hg)]

theorem rangeL_len0 (n : Nat) : (rangeL 0 (n : Int)).length = n := by rw [rangeL_length]; omega

theorem enum_map (g : Int → Int) (n : Nat) : enumL ((rangeL 0 (n : Int)).map g) = (rangeL 0 (n : Int)).map fun p => (p, g p) := by
  refine List.ext_getElem (by rw [enumL_len, List.length_map, List.length_map]) fun i h1 h2 => ?_
  unfold enumL rangeL
  simp
theorem mxI_some {xs : List Int} (h : xs ≠ []) : ∃ m, mxI xs = some m := by
  cases e : mxI xs with
  | none => exact (h (mxI_none e)).elim
  | some m => exact ⟨m, rfl⟩
theorem mnI_some {xs : List Int} (h : xs ≠ []) : ∃ m, mnI xs = some m := by
  cases e : mnI xs with
  | none => exact (h (mnI_none e)).elim
  | some m => exact ⟨m, rfl⟩
theorem range_at (g : Int → Int) {n : Nat} {p : Int} (h : p ∈ rangeL 0 (n : Int)) : L2.atI ((rangeL 0 (n : Int)).map g) p = some (g p) := by
  obtain ⟨p0, p1⟩ := rangeL_mem.mp h
  obtain ⟨x, h1, h2⟩ := atI_some (xs := (rangeL 0 (n : Int)).map g) (j := p) p0 (by rw [List.length_map, rangeL_length]; omega)
  rw [h1]
  unfold rangeL at h2
  rw [List.map_map, List.getElem?_map, List.getElem?_range (by omega)] at h2
  have h2 := Option.some.inj h2
  rw [← h2]
  show some (g (0 + ((p.toNat : Nat) : Int))) = _
  rw [show (0 : Int) + ((p.toNat : Nat) : Int) = p by omega]
def keepF (g : Int → Int) (m : Int) (n : Nat) : List Int := (rangeL 0 (n : Int)).filterMap fun p => if g p = m then some p else none
theorem best_ok {t : Tr} {r : Rule} {g : Int → Int} (hn : t.1.length ≤ 100000) (ha : m_all_seats t r = .ok ((rangeL 0 (t.1.length : Int)).map g)) {mx : Int} (hmx : mxI ((rangeL 0 (t.1.length : Int)).map g) = some mx) : m_best_seats t r = .ok (keepF g mx t.1.length) := by
  have el : (enumL ((rangeL 0 (t.1.length : Int)).map g)).length < 16777216 := by rw [enumL_len, List.length_map, rangeL_length]; omega
  unfold m_best_seats
  rw [bind_ok ha]
  rw [bind_ok (compS_pure (fun y => if y.2 = mx then some y.1 else none) el fun y _ => by
    rw [opt_b hmx]
    by_cases z : y.2 = mx
    · rw [if_pos z, if_pos z]
    · rw [if_neg z, if_neg z])]
  rw [enum_map, List.filterMap_map]
  rfl
theorem least_ok {t : Tr} {r : Rule} {g : Int → Int} (hn : t.1.length ≤ 100000) (ha : m_all_seats t r = .ok ((rangeL 0 (t.1.length : Int)).map g)) {mn : Int} (hmn : mnI ((rangeL 0 (t.1.length : Int)).map g) = some mn) : m_least_seats t r = .ok (keepF g mn t.1.length) := by
  have el : (enumL ((rangeL 0 (t.1.length : Int)).map g)).length < 16777216 := by rw [enumL_len, List.length_map, rangeL_length]; omega
  unfold m_least_seats
  rw [bind_ok ha]
  rw [bind_ok (compS_pure (fun y => if y.2 = mn then some y.1 else none) el fun y _ => by
    rw [opt_b hmn]
    by_cases z : y.2 = mn
    · rw [if_pos z, if_pos z]
    · rw [if_neg z, if_neg z])]
  rw [enum_map, List.filterMap_map]
  rfl

theorem all_rows_ok (t : Tr) (ht : TreeOk t) (hn : t.1.length ≤ 100000) {r : Rule} {many : Int} (R : RuleOk r many) {w : Int → Int → Nat} {f : Int → Int → List Int} (RF : RowsF t r many w f) :
    m_all_rows t r = .ok ((brs t).map fun p => (p, f p.1 p.2)) := by
  obtain ⟨rows, h1, h2⟩ := rows_known_ok t ht hn RF
  have hlen := ht.len
  have bl := brs_len (t := t)
  unfold m_all_rows
  rw [bind_ok (show m_need_rule r = .ok () by unfold m_need_rule; rw [bind_ok (is_rule_ok R), if_pos rfl])]
  rw [bind_ok h1, bind_ok (show m_every_branch t = .ok (brs t) by unfold m_every_branch; rw [bind_ok (lengths_ok t ht (by omega))]; rfl)]
  rw [bind_ok (compS_pure (fun p => some (p, f p.1 p.2)) (by omega) fun p hp => by
    obtain ⟨l, hs⟩ := (near_step ht).mp ((brs_mem ht).mp hp)
    rw [opt_b (h2 p.1 p.2 l hs)])]
  rw [List.filterMap_eq_map']
theorem told_get {t : Tr} (ht : TreeOk t) {f : Int → Int → List Int} {a b l : Int} (h : Step t a b l) : dGet (mergeDT ((brs t).map fun p => (p, f p.1 p.2))) (a, b) = some (f a b) := by
  have k0 : ((brs t).map fun p => (p, f p.1 p.2)).map (·.1) = brs t := by rw [List.map_map]; exact List.map_id (brs t)
  have e0 : mergeDT ((brs t).map fun p => (p, f p.1 p.2)) = (brs t).map fun p => (p, f p.1 p.2) := by
    unfold mergeDT
    rw [merge_newT (by rw [List.nil_append, k0]; exact brs_nd ht)]
    rfl
  rw [e0]
  exact dGet_mem (by rw [k0]; exact brs_nd ht) (List.mem_map.mpr ⟨(a, b), (brs_mem ht).mpr ((near_step ht).mpr ⟨l, h⟩), rfl⟩)

/-! ### sums that grow with what stands in them -/
theorem comp2_inv {g : Sm → M Int} {a b : Sm} {q : List Int × Unit} (h : compS (fun (y : Sm) (_ : Unit) => g y >>= fun r => .ok (some r, ())) [a, b] () = .ok q) : ∃ va vb, g a = .ok va ∧ g b = .ok vb ∧ q.1 = [va, vb] := by
  cases ha : g a with
  | ok va =>
    cases hb : g b with
    | ok vb =>
      have := comp2 (f := fun (y : Sm) (_ : Unit) => g y >>= fun r => .ok (some r, ())) (a := a) (b := b) (va := va) (vb := vb) (by rw [bind_ok ha]) (by rw [bind_ok hb])
      rw [this] at h
      cases h
      exact ⟨va, vb, rfl, rfl, rfl⟩
    | error e =>
      unfold compS at h
      rw [chk_b (show [a, b].length < 16777216 by show 2 < 16777216; decide)] at h
      have h : (nox (g a >>= fun r => (.ok (some r, ()) : M (Option Int × Unit))) >>= _) = .ok q := h
      rw [bind_ok ha] at h
      have h : (nox (g b >>= fun r => (.ok (some r, ()) : M (Option Int × Unit))) >>= _) = .ok q := h
      rw [hb] at h
      cases e <;> exact nomatch h
  | error e =>
    unfold compS at h
    rw [chk_b (show [a, b].length < 16777216 by show 2 < 16777216; decide)] at h
    have h : (nox (g a >>= fun r => (.ok (some r, ()) : M (Option Int × Unit))) >>= _) = .ok q := h
    rw [ha] at h
    cases e <;> exact nomatch h
def LeafP (ws : List Str) (many : Int) (x : Sm) : Prop := (x = .nam "own" ∧ ("own" : Str) ∈ ws) ∨ (x = .nam "tie" ∧ ("tie" : Str) ∈ ws) ∨ (∃ k : Int, x = .num "so" k ∧ (0 ≤ k ∧ k < many) ∧ ("so" : Str) ∈ ws) ∨ ∃ k : Int, x = .num "more" k ∧ (0 ≤ k ∧ k < many) ∧ ("more" : Str) ∈ ws
def Pl (ws : List Str) (many : Int) : Nat → Sm → Prop
  | 0, _ => False
  | d + 1, x => LeafP ws many x ∨ ∃ w a b, x = .two w a b ∧ Op4 w ∧ Pl ws many d a ∧ Pl ws many d b
theorem pl_good {ws : List Str} {many : Int} : ∀ {d : Nat} {x : Sm}, Pl ws many d x → Good2 ws many d x
  | 0, _, h => h.elim
  | d + 1, x, h => by
    rcases h with h | ⟨w, a, b, e, hw, ha, hb⟩
    · exact .inl (.inr h)
    · exact .inr (.inr ⟨w, a, b, e, hw, pl_good ha, pl_good hb⟩)
def exw (w : Str) : Str := if w = ("most" : Str) then "least" else if w = ("least" : Str) then "most" else w
def exP : Sm → Sm
  | .two w a b => .two (exw w) (exP a) (exP b)
  | .num w n => .num w n
  | .nam w => .nam w
theorem exw_dict (w : Str) : (dGet (mergeDS [(("most" : Str), ("least" : Str)), (("least" : Str), ("most" : Str))]) w).getD w = exw w := by
  have e : mergeDS [(("most" : Str), ("least" : Str)), (("least" : Str), ("most" : Str))] = [(("most" : Str), ("least" : Str)), (("least" : Str), ("most" : Str))] := by
    unfold mergeDS
    rw [merge_newS (by exact (by decide +kernel : ([("most" : Str), "least"] : List Str).Nodup))]
    rfl
  rw [e]
  unfold exw
  by_cases h1 : w = ("most" : Str)
  · rw [dGet_pos h1.symm, if_pos h1]; rfl
  · rw [dGet_neg (fun z => h1 z.symm), if_neg h1]
    by_cases h2 : w = ("least" : Str)
    · rw [dGet_pos h2.symm, if_pos h2]; rfl
    · rw [dGet_neg (fun z => h2 z.symm), if_neg h2]; rfl
theorem op4_ex {w : Str} (h : Op4 w) : Op4 (exw w) := by
  rcases h with e | e | e | e <;> subst e
  · exact .inl (by decide +kernel)
  · exact .inr (.inl (by decide +kernel))
  · exact .inr (.inr (.inr (by decide +kernel)))
  · exact .inr (.inr (.inl (by decide +kernel)))
theorem leaf_ex {ws : List Str} {many : Int} {x : Sm} (h : LeafP ws many x) : exP x = x := by
  rcases h with ⟨e, _⟩ | ⟨e, _⟩ | ⟨k, e, _⟩ | ⟨k, e, _⟩ <;> subst e <;> rfl
theorem ex_pl {ws : List Str} {many : Int} : ∀ {d : Nat} {x : Sm}, Pl ws many d x → Pl ws many d (exP x)
  | 0, _, h => h.elim
  | d + 1, x, h => by
    rcases h with h | ⟨w, a, b, e, hw, ha, hb⟩
    · rw [leaf_ex h]; exact .inl h
    · subst e
      exact .inr ⟨exw w, exP a, exP b, rfl, op4_ex hw, ex_pl ha, ex_pl hb⟩
theorem exch_ok {ws : List Str} {many : Int} : ∀ (n d : Nat) (x : Sm), d ≤ n → Pl ws many d x → m_law_exchanged n x = .ok (exP x)
  | _, 0, _, _, h => h.elim
  | 0, d + 1, _, l, _ => absurd l (by omega)
  | n + 1, d + 1, x, l, h => by
    unfold m_law_exchanged
    rcases h with h | ⟨w, a, b, e, hw, ha, hb⟩
    · rw [leaf_ex h]
      rw [if_pos]
      show Sm.word x ∈ ([("own" : Str), "tie", "so", "more"] : List Str)
      rcases h with ⟨e, _⟩ | ⟨e, _⟩ | ⟨k, e, _⟩ | ⟨k, e, _⟩ <;> subst e
      · show ("own" : Str) ∈ _; decide +kernel
      · show ("tie" : Str) ∈ _; decide +kernel
      · show ("so" : Str) ∈ _; decide +kernel
      · show ("more" : Str) ∈ _; decide +kernel
    · subst e
      have hn : ¬ w ∈ ([("own" : Str), "tie", "so", "more"] : List Str) := by
        rcases hw with e | e | e | e <;> subst e <;> decide +kernel
      rw [if_neg (show ¬ Sm.word (.two w a b) ∈ ([("own" : Str), "tie", "so", "more"] : List Str) from hn)]
      rw [opt_b (show Sm.two? (.two w a b) = some (a, b) from rfl)]
      show (m_law_exchanged n a >>= _) = _
      rw [bind_ok (exch_ok n d a (by omega) ha), opt_b (show Sm.two? (.two w a b) = some (a, b) from rfl)]
      show (m_law_exchanged n b >>= _) = _
      rw [bind_ok (exch_ok n d b (by omega) hb)]
      show Except.ok (Sm.two ((dGet _ w).getD w) (exP a) (exP b)) = _
      rw [exw_dict]
      rfl
def OpH (c : Int) (w w' : Str) : Prop := (w = "plus" ∧ w' = "plus") ∨ (w = "less" ∧ w' = "less") ∨ (w = "most" ∧ w' = "most" ∧ 0 ≤ c) ∨ (w = "least" ∧ w' = "least" ∧ 0 ≤ c) ∨ (w = "most" ∧ w' = "least" ∧ c ≤ 0) ∨ (w = "least" ∧ w' = "most" ∧ c ≤ 0)
def Hom (ws : List Str) (many c : Int) : Nat → Sm → Sm → Prop
  | 0, _, _ => False
  | d + 1, x, y => (LeafP ws many x ∧ y = x) ∨ ∃ w w' a b a' b', x = .two w a b ∧ y = .two w' a' b' ∧ OpH c w w' ∧ Hom ws many c d a a' ∧ Hom ws many c d b b'
section
variable {ws : List Str} {many c : Int}
theorem hom_id (hc : 0 ≤ c) : ∀ {d : Nat} {x : Sm}, Pl ws many d x → Hom ws many c d x x
  | 0, _, h => h.elim
  | d + 1, x, h => by
    rcases h with h | ⟨w, a, b, e, hw, ha, hb⟩
    · exact .inl ⟨h, rfl⟩
    · refine .inr ⟨w, w, a, b, a, b, e, e, ?_, hom_id hc ha, hom_id hc hb⟩
      rcases hw with e | e | e | e
      · exact .inl ⟨e, e⟩
      · exact .inr (.inl ⟨e, e⟩)
      · exact .inr (.inr (.inl ⟨e, e, hc⟩))
      · exact .inr (.inr (.inr (.inl ⟨e, e, hc⟩)))
theorem hom_ex (hc : c ≤ 0) : ∀ {d : Nat} {x : Sm}, Pl ws many d x → Hom ws many c d x (exP x)
  | 0, _, h => h.elim
  | d + 1, x, h => by
    rcases h with h | ⟨w, a, b, e, hw, ha, hb⟩
    · exact .inl ⟨h, leaf_ex h⟩
    · subst e
      refine .inr ⟨w, exw w, a, b, exP a, exP b, rfl, rfl, ?_, hom_ex hc ha, hom_ex hc hb⟩
      rcases hw with e | e | e | e <;> subst e
      · exact .inl ⟨rfl, by decide +kernel⟩
      · exact .inr (.inl ⟨rfl, by decide +kernel⟩)
      · exact .inr (.inr (.inr (.inr (.inl ⟨rfl, by decide +kernel, hc⟩))))
      · exact .inr (.inr (.inr (.inr (.inr ⟨rfl, by decide +kernel, hc⟩))))
theorem atI_map {f : Int → Int} {xs : List Int} {k v : Int} (h : L2.atI xs k = some v) : L2.atI (xs.map f) k = some (f v) := by
  unfold L2.atI at h ⊢
  rw [List.length_map]
  cases q : ixN xs.length k with
  | none => rw [q] at h; exact nomatch h
  | some j =>
    rw [q] at h
    have h : xs[j]? = some v := h
    show (xs.map f)[j]? = some (f v)
    rw [List.getElem?_map, h]
    rfl
variable {own tie : Int} {so more : List Int}
theorem two_inv {n : Nat} {w : Str} {a b : Sm} {v : Int} (hw : OpW w) (h : m_sum_at (n + 1) (.two w a b) own tie so more = .ok v) : ∃ va vb, m_sum_at n a own tie so more = .ok va ∧ m_sum_at n b own tie so more = .ok vb := by
  have h1 : ¬ w = ("number" : Str) ∧ ¬ w = ("own" : Str) ∧ ¬ w = ("tie" : Str) ∧ ¬ w = ("so" : Str) ∧ ¬ w = ("more" : Str) := by
    rcases hw with e | e | e | e | e <;> subst e <;> decide +kernel
  unfold m_sum_at at h
  rw [if_neg (show ¬ Sm.word (.two w a b) = _ from h1.1), if_neg (show ¬ Sm.word (.two w a b) = _ from h1.2.1), if_neg (show ¬ Sm.word (.two w a b) = _ from h1.2.2.1), if_neg (show ¬ Sm.word (.two w a b) = _ from h1.2.2.2.1), if_neg (show ¬ Sm.word (.two w a b) = _ from h1.2.2.2.2)] at h
  rw [opt_b (show Sm.two? (.two w a b) = some (a, b) from rfl)] at h
  obtain ⟨q, h2, _⟩ := bind_inv h
  obtain ⟨va, vb, ea, eb, _⟩ := comp2_inv (g := fun y => m_sum_at n y own tie so more) h2
  exact ⟨va, vb, ea, eb⟩
variable {d : Nat} {a b : Sm} {va vb : Int} (ha : m_sum_at d a own tie so more = .ok va) (hb : m_sum_at d b own tie so more = .ok vb)
include ha hb
theorem op_plus : m_sum_at (d + 1) (.two "plus" a b) own tie so more = .ok (va + vb) := by rw [op_sum (.inl rfl) ha hb, if_pos rfl]
theorem op_less : m_sum_at (d + 1) (.two "less" a b) own tie so more = .ok (va - vb) := by rw [op_sum (.inr (.inl rfl)) ha hb, if_neg (by decide +kernel), if_pos rfl]
theorem op_most : m_sum_at (d + 1) (.two "most" a b) own tie so more = .ok (if vb > va then vb else va) := by rw [op_sum (.inr (.inr (.inr (.inl rfl)))) ha hb, if_neg (by decide +kernel), if_neg (by decide +kernel), if_neg (by decide +kernel), if_pos rfl]
theorem op_least : m_sum_at (d + 1) (.two "least" a b) own tie so more = .ok (if vb < va then vb else va) := by rw [op_sum (.inr (.inr (.inr (.inr rfl)))) ha hb, if_neg (by decide +kernel), if_neg (by decide +kernel), if_neg (by decide +kernel), if_neg (by decide +kernel)]
end
section
variable {ws : List Str} {many c : Int}
theorem sum_own {n : Nat} {own tie : Int} {so more : List Int} : m_sum_at (n + 1) (.nam "own") own tie so more = .ok own := by
  unfold m_sum_at
  rw [if_neg (show ¬ Sm.word (.nam "own") = ("number" : Str) from s_no), if_pos (show Sm.word (.nam "own") = ("own" : Str) from rfl)]
theorem sum_tie {n : Nat} {own tie : Int} {so more : List Int} : m_sum_at (n + 1) (.nam "tie") own tie so more = .ok tie := by
  unfold m_sum_at
  rw [if_neg (show ¬ Sm.word (.nam "tie") = ("number" : Str) from s_nt), if_neg (show ¬ Sm.word (.nam "tie") = ("own" : Str) from s_to), if_pos (show Sm.word (.nam "tie") = ("tie" : Str) from rfl)]
theorem sum_so {n : Nat} {k own tie : Int} {so more : List Int} : m_sum_at (n + 1) (.num "so" k) own tie so more = (opt (L2.atI so k) >>= fun y => .ok y) := by
  unfold m_sum_at
  rw [if_neg (show ¬ Sm.word (.num "so" k) = ("number" : Str) from s_ns), if_neg (show ¬ Sm.word (.num "so" k) = ("own" : Str) from s_so), if_neg (show ¬ Sm.word (.num "so" k) = ("tie" : Str) from s_st), if_pos (show Sm.word (.num "so" k) = ("so" : Str) from rfl)]
  rfl
theorem sum_more {n : Nat} {k own tie : Int} {so more : List Int} : m_sum_at (n + 1) (.num "more" k) own tie so more = (opt (L2.atI more k) >>= fun y => .ok y) := by
  unfold m_sum_at
  rw [if_neg (show ¬ Sm.word (.num "more" k) = ("number" : Str) from s_nm), if_neg (show ¬ Sm.word (.num "more" k) = ("own" : Str) from s_mo), if_neg (show ¬ Sm.word (.num "more" k) = ("tie" : Str) from s_mt), if_neg (show ¬ Sm.word (.num "more" k) = ("so" : Str) from s_ms), if_pos (show Sm.word (.num "more" k) = ("more" : Str) from rfl)]
  rfl
theorem mul_mono (hc : 0 ≤ c) {x y : Int} (h : x ≤ y) : c * x ≤ c * y := Int.mul_le_mul_of_nonneg_left h hc
theorem mul_anti (hc : c ≤ 0) {x y : Int} (h : x ≤ y) : c * y ≤ c * x := by
  have := Int.mul_le_mul_of_nonneg_left h (show 0 ≤ -c by omega)
  rw [Int.neg_mul, Int.neg_mul] at this
  omega
theorem mul_mx (hc : 0 ≤ c) (x y : Int) : (if c * y > c * x then c * y else c * x) = c * (if y > x then y else x) := by
  by_cases h : y > x
  · rw [if_pos h]
    have := mul_mono hc (show x ≤ y by omega)
    by_cases g : c * y > c * x
    · rw [if_pos g]
    · rw [if_neg g]; omega
  · rw [if_neg h]
    have := mul_mono hc (show y ≤ x by omega)
    rw [if_neg (by omega)]
theorem mul_mn (hc : 0 ≤ c) (x y : Int) : (if c * y < c * x then c * y else c * x) = c * (if y < x then y else x) := by
  by_cases h : y < x
  · rw [if_pos h]
    have := mul_mono hc (show y ≤ x by omega)
    by_cases g : c * y < c * x
    · rw [if_pos g]
    · rw [if_neg g]; omega
  · rw [if_neg h]
    have := mul_mono hc (show x ≤ y by omega)
    rw [if_neg (by omega)]
theorem mul_mxn (hc : c ≤ 0) (x y : Int) : (if c * y < c * x then c * y else c * x) = c * (if y > x then y else x) := by
  by_cases h : y > x
  · rw [if_pos h]
    have := mul_anti hc (show x ≤ y by omega)
    by_cases g : c * y < c * x
    · rw [if_pos g]
    · rw [if_neg g]; omega
  · rw [if_neg h]
    have := mul_anti hc (show y ≤ x by omega)
    rw [if_neg (by omega)]
theorem mul_mnn (hc : c ≤ 0) (x y : Int) : (if c * y > c * x then c * y else c * x) = c * (if y < x then y else x) := by
  by_cases h : y < x
  · rw [if_pos h]
    have := mul_anti hc (show y ≤ x by omega)
    by_cases g : c * y > c * x
    · rw [if_pos g]
    · rw [if_neg g]; omega
  · rw [if_neg h]
    have := mul_anti hc (show x ≤ y by omega)
    rw [if_neg (by omega)]
theorem hom_eval : ∀ (n d : Nat) (x y : Sm) (own tie : Int) (so more : List Int) (v : Int), Hom ws many c d x y → m_sum_at n x own tie so more = .ok v → m_sum_at n y (c * own) (c * tie) (so.map (c * ·)) (more.map (c * ·)) = .ok (c * v)
  | _, 0, _, _, _, _, _, _, _, h, _ => h.elim
  | 0, _ + 1, _, _, _, _, _, _, _, _, e => nomatch e
  | n + 1, d + 1, x, y, own, tie, so, more, v, h, e => by
    rcases h with ⟨h, hy⟩ | ⟨w, w', a, b, a', b', hx, hy, hw, ha, hb⟩
    · subst hy
      rcases h with ⟨z, _⟩ | ⟨z, _⟩ | ⟨k, z, _⟩ | ⟨k, z, _⟩ <;> subst z
      · rw [sum_own] at e ⊢
        rw [Except.ok.inj e]
      · rw [sum_tie] at e ⊢
        rw [Except.ok.inj e]
      · rw [sum_so] at e ⊢
        obtain ⟨u, e1, e2⟩ := opt_inv e
        rw [opt_b (atI_map (f := (c * ·)) e1)]
        cases e2
        rfl
      · rw [sum_more] at e ⊢
        obtain ⟨u, e1, e2⟩ := opt_inv e
        rw [opt_b (atI_map (f := (c * ·)) e1)]
        cases e2
        rfl
    · subst hx
      subst hy
      have op : OpW w := by
        rcases hw with ⟨z, _⟩ | ⟨z, _⟩ | ⟨z, _⟩ | ⟨z, _⟩ | ⟨z, _⟩ | ⟨z, _⟩ <;> subst z <;> unfold OpW <;> decide +kernel
      obtain ⟨va, vb, ea, eb⟩ := two_inv op e
      have fa := hom_eval n d a a' own tie so more va ha ea
      have fb := hom_eval n d b b' own tie so more vb hb eb
      rcases hw with ⟨z, z'⟩ | ⟨z, z'⟩ | ⟨z, z', hc⟩ | ⟨z, z', hc⟩ | ⟨z, z', hc⟩ | ⟨z, z', hc⟩ <;> subst z <;> subst z'
      · rw [op_plus ea eb] at e
        rw [op_plus fa fb, ← Except.ok.inj e, Int.mul_add]
      · rw [op_less ea eb] at e
        rw [op_less fa fb, ← Except.ok.inj e, Int.mul_sub]
      · rw [op_most ea eb] at e
        rw [op_most fa fb, ← Except.ok.inj e, mul_mx hc]
      · rw [op_least ea eb] at e
        rw [op_least fa fb, ← Except.ok.inj e, mul_mn hc]
      · rw [op_most ea eb] at e
        rw [op_least fa fb, ← Except.ok.inj e, mul_mxn hc]
      · rw [op_least ea eb] at e
        rw [op_most fa fb, ← Except.ok.inj e, mul_mnn hc]
end
/-! ### rules -/
abbrev sc (c : Int) (xs : List Int) : List Int := xs.map (c * ·)
abbrev EvF (g : Sm → M Int) : Sm → Unit → M (Option Int × Unit) := fun y _ => g y >>= fun r => .ok (some r, ())
theorem compX_hom {g g' : Sm → M Int} {φ : Sm → Sm} {c : Int} : ∀ {xs : List Sm} {acc : List Int} {q : List Int × Unit}, (∀ y ∈ xs, ∀ v, g y = .ok v → g' (φ y) = .ok (c * v)) → compX (EvF g) xs acc () = .ok q → compX (EvF g') (xs.map φ) (sc c acc) () = .ok (sc c q.1, ())
  | [], acc, q, _, h => by cases h; rfl
  | y :: ys, acc, q, hg, h => by
    cases e : g y with
    | error z =>
      have h1 : nox (EvF g y ()) = bad := by
        show nox (g y >>= _) = _
        rw [e]
        cases z <;> rfl
      have h : (nox (EvF g y ()) >>= _) = .ok q := h
      rw [h1] at h
      exact nomatch h
    | ok v =>
      have h1 : nox (EvF g y ()) = .ok (some v, ()) := by
        show nox (g y >>= _) = _
        rw [e]
        rfl
      have h : (nox (EvF g y ()) >>= _) = .ok q := h
      rw [h1] at h
      have h : compX (EvF g) ys (acc ++ [v]) () = .ok q := h
      have ih := compX_hom (fun z hz => hg z (List.mem_cons_of_mem _ hz)) h
      have h2 : nox (EvF g' (φ y) ()) = .ok (some (c * v), ()) := by
        show nox (g' (φ y) >>= _) = _
        rw [hg y List.mem_cons_self v e]
        rfl
      show (nox (EvF g' (φ y) ()) >>= _) = _
      rw [h2]
      rw [show sc c (acc ++ [v]) = sc c acc ++ [c * v] from List.map_append] at ih
      exact ih
theorem comp_hom {ws : List Str} {many c own tie : Int} {so more : List Int} {φ : Sm → Sm} {xs : List Sm} {q : List Int × Unit} (hx : ∀ x ∈ xs, Hom ws many c 3 x (φ x)) (h : compS (EvF fun y => m_sum_at 12 y own tie so more) xs () = .ok q) :
    compS (EvF fun y => m_sum_at 12 y (c * own) (c * tie) (sc c so) (sc c more)) (xs.map φ) () = .ok (sc c q.1, ()) := by
  by_cases hl : xs.length < 16777216
  · unfold compS at h ⊢
    rw [chk_b hl] at h
    rw [chk_b (by rw [List.length_map]; exact hl)]
    exact compX_hom (fun y hy v e => hom_eval 12 3 y (φ y) own tie so more v (hx y hy) e) h
  · unfold compS chk at h
    rw [if_neg hl] at h
    exact nomatch h
structure RH (c many : Int) (r r' : Rule) (φ : Sm → Sm) : Prop where
  ha : ∀ x ∈ r.a, Hom wsB many c 3 x (φ x)
  hb : ∀ x ∈ r.b, Hom wsO many c 3 x (φ x)
  hc : ∀ x ∈ r.c, Hom wsJ many c 3 x (φ x)
  hd : Hom wsT many c 3 r.d (φ r.d)
  ea : r'.a = r.a.map φ
  eb : r'.b = r.b.map φ
  ec : r'.c = r.c.map φ
  ed : r'.d = φ r.d
section
variable {c many : Int} {r r' : Rule} {φ : Sm → Sm} (R : RH c many r r' φ) {own tie v : Int} {so more x : List Int}
include R
theorem begun_hom (h : m_begun r own = .ok x) : m_begun r' (c * own) = .ok (sc c x) := by
  unfold m_begun at h ⊢
  obtain ⟨q, h1, h2⟩ := bind_inv h
  have z := comp_hom (own := own) (tie := 0) (so := []) (more := []) R.ha h1
  rw [Int.mul_zero, ← R.ea] at z
  refine (bind_ok z _).trans ?_
  cases h2
  rfl
theorem joined_hom (h : m_joined r so more own = .ok x) : m_joined r' (sc c so) (sc c more) (c * own) = .ok (sc c x) := by
  unfold m_joined at h ⊢
  obtain ⟨q, h1, h2⟩ := bind_inv h
  have z := comp_hom (own := own) (tie := 0) (so := so) (more := more) R.hc h1
  rw [Int.mul_zero, ← R.ec] at z
  refine (bind_ok z _).trans ?_
  cases h2
  rfl
theorem over_hom (h : m_over_tie r more own tie = .ok x) : m_over_tie r' (sc c more) (c * own) (c * tie) = .ok (sc c x) := by
  unfold m_over_tie at h ⊢
  obtain ⟨q, h1, h2⟩ := bind_inv h
  have z := comp_hom (own := own) (tie := tie) (so := []) (more := more) R.hb h1
  rw [← R.eb] at z
  refine (bind_ok z _).trans ?_
  cases h2
  rfl
theorem told_hom (h : m_told_by r so own = .ok v) : m_told_by r' (sc c so) (c * own) = .ok (c * v) := by
  unfold m_told_by at h ⊢
  obtain ⟨q, h1, h2⟩ := bind_inv h
  have z := hom_eval 12 3 r.d (φ r.d) own 0 so [] q R.hd h1
  rw [Int.mul_zero, ← R.ed] at z
  refine (bind_ok z _).trans ?_
  cases h2
  rfl
theorem fold_hom : ∀ (L : List (List Int)) (so so' : List Int), loopN (fun (y42 : (List Int)) (st53 : (List Int)) => m_joined r st53 y42 own >>= fun r61 => (.ok r61 : M _)) L so = .ok so' →
    loopN (fun (y42 : (List Int)) (st53 : (List Int)) => m_joined r' st53 y42 (c * own) >>= fun r61 => (.ok r61 : M _)) (L.map (sc c)) (sc c so) = .ok (sc c so')
  | [], so, so', h => by cases h; rfl
  | m :: L, so, so', h => by
    have h : ((m_joined r so m own >>= fun r61 => (.ok r61 : M _)) >>= fun s => loopN _ L s) = .ok so' := h
    obtain ⟨s1, h2, h3⟩ := bind_inv h
    obtain ⟨s2, h4, h5⟩ := bind_inv h2
    cases h5
    have ih := fold_hom L s1 so' h3
    show ((m_joined r' (sc c so) (sc c m) (c * own) >>= fun r61 => (.ok r61 : M _)) >>= _) = _
    rw [joined_hom R h4]
    exact ih
theorem with_hom {t t' : Tr} {p : Int} {L : List (List Int)} (o1 : L2.atI t.1 p = some own) (o2 : L2.atI t'.1 p = some (c * own)) (h : m_row_with t r p L = .ok so) : m_row_with t' r' p (L.map (sc c)) = .ok (sc c so) := by
  unfold m_row_with at h ⊢
  rw [opt_b o1] at h
  rw [opt_b o2]
  obtain ⟨s0, h1, h2⟩ := bind_inv h
  rw [bind_ok (begun_hom R h1)]
  obtain ⟨s1, h3, h4⟩ := bind_inv h2
  rw [bind_ok (fold_hom R L s0 s1 h3)]
  cases h4
  rfl
end
/-! ### the moved tree -/
def mvE (c : Int) (z : Tie) : Tie := ⟨z.a, z.b, c * z.c⟩
def mvT (t : Tr) (c : Int) : Tr := (sc c t.1, t.2.map (mvE c))
theorem grown_mv {c : Int} {ps : List Int} {ts : List Tie} (g : Grown ps ts) : Grown ps (ts.map (mvE c)) := by
  induction g with
  | one p => exact Grown.one p
  | @more ps ts q p l g hq hp ih =>
    rw [List.map_append]
    have e : mvE c (tieOf p q l) = tieOf p q (c * l) := by
      unfold tieOf
      by_cases h : p ≤ q
      · rw [if_pos h, if_pos h]; rfl
      · rw [if_neg h, if_neg h]; rfl
    show Grown (ps ++ [p]) (ts.map (mvE c) ++ [mvE c (tieOf p q l)])
    rw [e]
    exact Grown.more q p (c * l) ih hq hp
section
variable {t : Tr} {c : Int}
theorem mv_len : (mvT t c).1.length = t.1.length := List.length_map _
theorem mv_tree (ht : TreeOk t) : TreeOk (mvT t c) := by
  have nd := tree_pairs ht
  obtain ⟨ps, ts, g, hp, e⟩ := ht.ex
  refine ⟨ps, ts.map (mvE c), grown_mv g, by rw [mv_len]; exact hp, ?_⟩
  have srt : t.2.Pairwise (fun x y => leT x y = true) := by rw [e]; exact sortT_sorted ts
  refine perm_sorted_eq LeOk.anti ?_ ?_ (sortT_sorted _)
  · refine List.Perm.trans ?_ (sortT_perm _).symm
    show (t.2.map (mvE c)).Perm _
    rw [e]
    exact (sortT_perm ts).map _
  · show (t.2.map (mvE c)).Pairwise _
    rw [List.pairwise_map]
    rw [List.nodup_iff_pairwise_ne, List.pairwise_map] at nd
    refine (srt.and nd).imp ?_
    intro x y ⟨h1, h2⟩
    rw [leT_3] at h1 ⊢
    have h1 := of_decide_eq_true h1
    refine decide_eq_true ?_
    show x.a < y.a ∨ (x.a = y.a ∧ (x.b < y.b ∨ (x.b = y.b ∧ c * x.c ≤ c * y.c)))
    rcases h1 with h | ⟨h, k | ⟨k, _⟩⟩
    · exact .inl h
    · exact .inr ⟨h, .inl k⟩
    · exact absurd (show (x.a, x.b) = (y.a, y.b) by rw [h, k]) h2
theorem mv_near (p : Int) : nearOf (mvT t c).2 p = nearOf t.2 p := by
  unfold nearOf
  show sortT ((t.2.map (mvE c)).filterMap (other p)) = _
  rw [List.filterMap_map]
  rfl
theorem mv_step {a b l : Int} (h : Step t a b l) : Step (mvT t c) a b (c * l) := by
  obtain ⟨z, hz, h1, h2⟩ := h
  exact ⟨mvE c z, List.mem_map.mpr ⟨z, hz, rfl⟩, h1, by rw [← h2]; rfl⟩
theorem mv_keys : ∀ ts : List Tie, (lenOf (ts.map (mvE c))).map (·.1) = (lenOf ts).map (·.1)
  | [] => rfl
  | z :: ts => by
    show (z.a, z.b) :: (z.b, z.a) :: (lenOf (ts.map (mvE c))).map (·.1) = (z.a, z.b) :: (z.b, z.a) :: (lenOf ts).map (·.1)
    rw [mv_keys ts]
theorem mv_brs : brs (mvT t c) = brs t := by
  unfold brs
  show sortT ((lenOf (t.2.map (mvE c))).map (·.1)) = _
  rw [mv_keys]
theorem rows_hom (ht : TreeOk t) {many : Int} {r r' : Rule} {φ : Sm → Sm} (R : RH c many r r' φ) {w w' : Int → Int → Nat} {f f' : Int → Int → List Int} (RF : RowsF t r many w f) (RF' : RowsF (mvT t c) r' many w' f') : ∀ x y l, Step t x y l → f' x y = sc c (f x y) := by
  obtain ⟨u, hu⟩ := weight_tree ht
  have main : ∀ (N : Nat) x y l, Step t x y l → u x y ≤ N → f' x y = sc c (f x y) := fun N => by
    induction N with
    | zero =>
      intro x y l hs hN
      have := (hu x y ((near_step ht).mpr ⟨l, step_sym hs⟩)).1
      omega
    | succ N ih =>
      intro x y l hs hN
      have hux := (hu x y ((near_step ht).mpr ⟨l, step_sym hs⟩)).1
      obtain ⟨so, own, e1, e2, e3⟩ := RF.prog x y l hs
      obtain ⟨so', own', e1', e2', e3'⟩ := RF'.prog x y (c * l) (mv_step hs)
      have hown : own' = c * own := Option.some.inj (e2'.symm.trans (atI_map (f := (c * ·)) e2))
      subst hown
      have hsub : subs (mvT t c) x y = subs t x y := by unfold subs; rw [mv_near]
      have hL : (subs (mvT t c) x y).map (f' y) = ((subs t x y).map (f y)).map (sc c) := by
        rw [hsub, List.map_map]
        refine List.map_congr_left fun z hz => ?_
        obtain ⟨hzn, _⟩ := List.mem_filter.mp hz
        obtain ⟨lz, hsz⟩ := (near_step ht).mp hzn
        have hle := sumF_mem (f := u y) hz
        exact ih y z lz hsz (by unfold subs at hle; omega)
      have e4 := with_hom R (t' := mvT t c) e2 e2' e1
      rw [← hL, e1'] at e4
      have e5 := Except.ok.inj e4
      subst e5
      have e6 := over_hom R e3
      rw [e3'] at e6
      exact Except.ok.inj e6
  exact fun x y l hs => main _ x y l hs (Nat.le_refl _)
theorem seats_hom (ht : TreeOk t) (hn : t.1.length ≤ 40) {many : Int} {r r' : Rule} {φ : Sm → Sm} (R : RH c many r r' φ) (Ro : RuleOk r many) (Ro' : RuleOk r' many) (hw1 : ∀ x ∈ t.1, x.natAbs < 2 ^ 100) (hw1' : ∀ x ∈ (mvT t c).1, x.natAbs < 2 ^ 100)
    {w w' : Int → Int → Nat} {f f' : Int → Int → List Int} (RF : RowsF t r many w f) (RF' : RowsF (mvT t c) r' many w' f') {g g' : Int → Int}
    (hg : ∀ p, 0 ≤ p → p < (t.1.length : Int) → m_law_seat t r p = .ok (g p)) (hg' : ∀ p, 0 ≤ p → p < ((mvT t c).1.length : Int) → m_law_seat (mvT t c) r' p = .ok (g' p)) : ∀ p, 0 ≤ p → p < (t.1.length : Int) → g' p = c * g p := by
  intro p p0 p1
  have tl := mv_len (t := t) (c := c)
  obtain ⟨so, own, v, q1, q2, q3, q4⟩ := seatF t ht hn Ro hw1 RF p p0 p1
  obtain ⟨so', own', v', q1', q2', q3', q4'⟩ := seatF (mvT t c) (mv_tree ht) (by omega) Ro' hw1' RF' p p0 (by omega)
  have hown : own' = c * own := Option.some.inj (q1'.symm.trans (atI_map (f := (c * ·)) q1))
  subst hown
  have hL : (nearOf (mvT t c).2 p).map (f' p) = ((nearOf t.2 p).map (f p)).map (sc c) := by
    rw [mv_near, List.map_map]
    refine List.map_congr_left fun z hz => ?_
    obtain ⟨lz, hsz⟩ := (near_step ht).mp hz
    exact rows_hom ht R RF RF' p z lz hsz
  have e4 := with_hom R (t' := mvT t c) q1 q1' q2
  rw [← hL, q2'] at e4
  have e5 := Except.ok.inj e4
  subst e5
  have e6 := told_hom R q3
  rw [q3'] at e6
  have e1 : v = g p := Except.ok.inj (q4.symm.trans (hg p p0 p1))
  have e2 : v' = g' p := Except.ok.inj (q4'.symm.trans (hg' p p0 (by omega)))
  rw [← e1, ← e2]
  exact Except.ok.inj e6
end
/-! ### the drawn rule -/
structure RuleP (r : Rule) (many : Int) : Prop where
  m1 : 1 ≤ many
  m2 : many ≤ 3
  la : (r.a.length : Int) = many
  lb : (r.b.length : Int) = many
  lc : (r.c.length : Int) = many
  ga : ∀ x ∈ r.a, Pl wsB many 3 x
  gb : ∀ x ∈ r.b, Pl wsO many 3 x
  gc : ∀ x ∈ r.c, Pl wsJ many 3 x
  gd : Pl wsT many 3 r.d
theorem RuleP.ok {r : Rule} {many : Int} (R : RuleP r many) : RuleOk r many := ⟨R.m1, R.m2, R.la, R.lb, R.lc, fun x h => pl_good (R.ga x h), fun x h => pl_good (R.gb x h), fun x h => pl_good (R.gc x h), pl_good R.gd⟩
def exR (r : Rule) : Rule := ⟨r.a.map exP, r.b.map exP, r.c.map exP, exP r.d⟩
theorem pl_map {ws : List Str} {many : Int} {d : Nat} {xs : List Sm} (h : ∀ x ∈ xs, Pl ws many d x) : ∀ x ∈ xs.map exP, Pl ws many d x := fun x hx => by
  obtain ⟨y, hy, rfl⟩ := List.mem_map.mp hx
  exact ex_pl (h y hy)
theorem RuleP.ex {r : Rule} {many : Int} (R : RuleP r many) : RuleP (exR r) many :=
  ⟨R.m1, R.m2, by rw [← R.la]; exact congrArg _ (List.length_map _), by rw [← R.lb]; exact congrArg _ (List.length_map _), by rw [← R.lc]; exact congrArg _ (List.length_map _), pl_map R.ga, pl_map R.gb, pl_map R.gc, ex_pl R.gd⟩
theorem RuleP.hom {r : Rule} {many c : Int} (R : RuleP r many) (hc : 0 ≤ c) : RH c many r r (fun x => x) :=
  ⟨fun x h => hom_id hc (R.ga x h), fun x h => hom_id hc (R.gb x h), fun x h => hom_id hc (R.gc x h), hom_id hc R.gd, (List.map_id' _).symm, (List.map_id' _).symm, (List.map_id' _).symm, rfl⟩
theorem RuleP.homx {r : Rule} {many c : Int} (R : RuleP r many) (hc : c ≤ 0) : RH c many r (exR r) exP :=
  ⟨fun x h => hom_ex hc (R.ga x h), fun x h => hom_ex hc (R.gb x h), fun x h => hom_ex hc (R.gc x h), hom_ex hc R.gd, rfl, rfl, rfl, rfl⟩
def leafM (ws : List Str) (many : Int) (dk : List Int) : M (Sm × List Int) :=
    m_law_take dk (ws.length : Int) >>= fun r16 =>
    opt (L2.atI ws r16.1) >>= fun y30 =>
    m_law_take r16.2 many >>= fun r42 =>
    opt (L2.atI ([(Sm.nam y30), (Sm.num (y30, r42.1).1 (y30, r42.1).2)]) (if (decide (y30 ∈ ([(("so" : Str), ("more" : Str)).1, (("so" : Str), ("more" : Str)).2]))) = true then (1 : Int) else 0)) >>= fun y85 =>
    .ok (y85, r42.2)
theorem leafM_ok (ws : List Str) (W : WsOk ws) (many : Int) (m1 : 1 ≤ many) (m2 : many ≤ 3) (d : Int) : ∃ x d', leafM ws many [d] = .ok (x, [d']) ∧ LeafP ws many x := by
  have hl := W.len
  have hp : 0 < ws.length := by
    obtain ⟨l, r, _, _, h, _⟩ := W.cut
    exact List.length_pos_of_mem h
  obtain ⟨w, d1, e1, w0, w5⟩ := take_small d (ws.length : Int) (by omega) (by omega)
  obtain ⟨z, a1, a2⟩ := atI_some (xs := ws) (j := w) w0 w5
  obtain ⟨k, d2, e2, k0, k1⟩ := take_small d1 many (by omega) (by omega)
  have hz := List.mem_of_getElem? a2
  unfold leafM
  rw [bind_ok e1]
  show ∃ x d', (opt (L2.atI ws w) >>= _) = _ ∧ _
  rw [opt_b a1]
  show ∃ x d', (m_law_take [d1] many >>= _) = _ ∧ _
  rw [bind_ok e2]
  have h4 := W.four z hz
  unfold four at h4
  simp only [List.mem_cons, List.not_mem_nil, or_false] at h4
  rcases h4 with e | e | e | e <;> subst e
  · exact ⟨_, d2, opt_b (show L2.atI [Sm.nam "own", Sm.num "own" k] (if decide (("own" : Str) ∈ ([("so" : Str), "more"] : List Str)) = true then (1 : Int) else 0) = some (Sm.nam "own") by rw [if_neg (by decide +kernel)]; rfl) _, .inl ⟨rfl, hz⟩⟩
  · exact ⟨_, d2, opt_b (show L2.atI [Sm.nam "tie", Sm.num "tie" k] (if decide (("tie" : Str) ∈ ([("so" : Str), "more"] : List Str)) = true then (1 : Int) else 0) = some (Sm.nam "tie") by rw [if_neg (by decide +kernel)]; rfl) _, .inr (.inl ⟨rfl, hz⟩)⟩
  · exact ⟨_, d2, opt_b (show L2.atI [Sm.nam "so", Sm.num "so" k] (if decide (("so" : Str) ∈ ([("so" : Str), "more"] : List Str)) = true then (1 : Int) else 0) = some (Sm.num "so" k) by rw [if_pos (by decide +kernel)]; rfl) _, .inr (.inr (.inl ⟨k, rfl, ⟨k0, k1⟩, hz⟩))⟩
  · exact ⟨_, d2, opt_b (show L2.atI [Sm.nam "more", Sm.num "more" k] (if decide (("more" : Str) ∈ ([("so" : Str), "more"] : List Str)) = true then (1 : Int) else 0) = some (Sm.num "more" k) by rw [if_pos (by decide +kernel)]; rfl) _, .inr (.inr (.inr ⟨k, rfl, ⟨k0, k1⟩, hz⟩))⟩
theorem part_ok (ws : List Str) (W : WsOk ws) (many : Int) (m1 : 1 ≤ many) (m2 : many ≤ 3) : ∀ (p n : Nat) (d : Int), p < n → ∃ x d', m_law_part n [d] ws many (p : Int) = .ok (x, [d']) ∧ Pl ws many (p + 1) x
  | _, 0, _, h => absurd h (Nat.not_lt_zero _)
  | 0, n + 1, d, _ => by
    obtain ⟨w, d1, e1, w0, w9⟩ := take_small d 6 (by decide) (by decide)
    obtain ⟨x, d2, e2, hx⟩ := leafM_ok ws W many m1 m2 d1
    refine ⟨x, d2, ?_, .inl hx⟩
    unfold m_law_part
    rw [bind_ok e1, if_pos (show ((0 : Nat) : Int) = 0 from rfl)]
    exact e2
  | p + 1, n + 1, d, h => by
    obtain ⟨w, d1, e1, w0, w9⟩ := take_small d 6 (by decide) (by decide)
    unfold m_law_part
    rw [bind_ok e1, if_neg (by omega)]
    show ∃ x d', (if w < 2 then _ else _) = _ ∧ _
    by_cases hw : w < 2
    · rw [if_pos hw]
      obtain ⟨x, d2, e2, hx⟩ := leafM_ok ws W many m1 m2 d1
      exact ⟨x, d2, e2, .inl hx⟩
    · rw [if_neg hw]
      obtain ⟨a, d2, e2, ha⟩ := part_ok ws W many m1 m2 p n d1 (by omega)
      obtain ⟨o, e3, e3'⟩ := atI_some (xs := [("plus" : Str), "less", "most", "least"]) (j := w - 2) (by omega) (by show w - 2 < ((4 : Nat) : Int); omega)
      have ho : Op4 o := by
        have hm := List.mem_of_getElem? e3'
        simp only [List.mem_cons, List.not_mem_nil, or_false] at hm
        exact hm
      obtain ⟨b, d3, e4, hb⟩ := part_ok ws W many m1 m2 p n d2 (by omega)
      rw [show (((p + 1 : Nat) : Int) - 1) = (p : Int) by omega]
      show ∃ x d', (m_law_part n [d1] ws many (p : Int) >>= _) = _ ∧ _
      rw [bind_ok e2]
      show ∃ x d', (opt (L2.atI [("plus" : Str), "less", "most", "least"] (w - 2)) >>= _) = _ ∧ _
      rw [opt_b e3]
      show ∃ x d', (m_law_part n [d2] ws many (p : Int) >>= _) = _ ∧ _
      rw [bind_ok e4]
      exact ⟨_, d3, rfl, .inr ⟨o, a, b, rfl, ho, ha, hb⟩⟩
theorem parts_ok (ws : List Str) (W : WsOk ws) (many : Int) (m1 : 1 ≤ many) (m2 : many ≤ 3) (d : Int) :
    ∃ xs d', compS (fun (y74 : Int) (st92 : (List Int)) =>
      m_law_part 5 st92 ws many (2 : Int) >>= fun r98 =>
      .ok (some r98.1, r98.2)) (rangeL 0 many) [d] = .ok (xs, [d']) ∧ (xs.length : Int) = many ∧ ∀ x ∈ xs, Pl ws many 3 x := by
  obtain ⟨acc, st, e, ⟨d', hd⟩, h3, h4⟩ := compS_run (f := fun (y74 : Int) (st92 : (List Int)) =>
      m_law_part 5 st92 ws many (2 : Int) >>= fun r98 =>
      .ok (some r98.1, r98.2)) (all := rangeL 0 many) (by rw [rangeL_length]; omega)
    (fun pre acc st => (∃ d', st = [d']) ∧ acc.length = pre.length ∧ ∀ x ∈ acc, Pl ws many 3 x) (x := [d]) ⟨⟨d, rfl⟩, rfl, fun _ h => nomatch h⟩ fun pre y post acc st _ ⟨⟨d', hd⟩, h3, h4⟩ => by
      subst hd
      obtain ⟨x, d2, e, hx⟩ := part_ok ws W many m1 m2 2 5 d' (by decide)
      refine ⟨some x, [d2], by rw [bind_ok (show m_law_part 5 [d'] ws many (2 : Int) = _ from e)], ⟨d2, rfl⟩, by rw [List.length_append, List.length_append, h3, List.length_singleton, List.length_singleton], fun z hz => ?_⟩
      rcases List.mem_append.mp hz with hz | hz
      · exact h4 z hz
      · rw [List.mem_singleton.mp hz]; exact hx
  subst hd
  rw [rangeL_length] at h3
  exact ⟨acc, d', e, by omega, h4⟩
theorem plain_ok (d : Int) : ∃ r d' many, m_law_plain_rule [d] = .ok (r, [d']) ∧ RuleP r many := by
  obtain ⟨k, d1, e1, k0, k3⟩ := take_small d 3 (by decide) (by decide)
  have m1 : 1 ≤ 1 + k := by omega
  have m2 : 1 + k ≤ 3 := by omega
  obtain ⟨xa, d2, ea, la, ga⟩ := parts_ok wsB okB (1 + k) m1 m2 d1
  obtain ⟨xb, d3, eb, lb, gb⟩ := parts_ok wsO okO (1 + k) m1 m2 d2
  obtain ⟨xc, d4, ec, lc, gc⟩ := parts_ok wsJ okJ (1 + k) m1 m2 d3
  obtain ⟨xd, d5, ed, gd⟩ := part_ok wsT okT (1 + k) m1 m2 2 5 d4 (by decide)
  refine ⟨⟨xa, xb, xc, xd⟩, d5, 1 + k, ?_, ⟨m1, m2, la, lb, lc, ga, gb, gc, gd⟩⟩
  unfold m_law_plain_rule
  rw [bind_ok e1]
  have ok : okR (1 + k) := ⟨by omega, by omega⟩
  rw [bind_ok (loop3 (x1 := ([xa], [d2])) (x2 := ([xa, xb], [d3])) (x3 := ([xa, xb, xc], [d4])) (by
      show (chk (okR (1 + k)) >>= _) = _
      rw [chk_b ok]
      exact (bind_ok ea _).trans rfl) (by
      show (chk (okR (1 + k)) >>= _) = _
      rw [chk_b ok]
      exact (bind_ok eb _).trans rfl) (by
      show (chk (okR (1 + k)) >>= _) = _
      rw [chk_b ok]
      exact (bind_ok ec _).trans rfl))]
  rw [opt_b (show L2.atI [xa, xb, xc] (0 : Int) = some xa from rfl), opt_b (show L2.atI [xa, xb, xc] (1 : Int) = some xb from rfl), opt_b (show L2.atI [xa, xb, xc] (2 : Int) = some xc from rfl)]
  show (m_law_part 5 [d4] wsT (1 + k) (2 : Int) >>= _) = _
  rw [bind_ok (show m_law_part 5 [d4] wsT (1 + k) (2 : Int) = _ from ed)]
/-! ### greatest and least -/
section
variable {xs : List Int} {m c : Int}
theorem mx_sc (hc : 0 ≤ c) (h : mxI xs = some m) : mxI (sc c xs) = some (c * m) := by
  obtain ⟨h1, h2⟩ := mxI_is h
  obtain ⟨m', h'⟩ := mxI_some (xs := sc c xs) (fun z => by rw [List.map_eq_nil_iff] at z; subst z; exact nomatch h1)
  rw [mxI_uq h' (n := c * m) (List.mem_map.mpr ⟨m, h1, rfl⟩) (fun y hy => by
    obtain ⟨z, hz, rfl⟩ := List.mem_map.mp hy
    exact mul_mono hc (h2 z hz))] at h'
  exact h'
theorem mn_sc (hc : 0 ≤ c) (h : mnI xs = some m) : mnI (sc c xs) = some (c * m) := by
  obtain ⟨h1, h2⟩ := mnI_is h
  obtain ⟨m', h'⟩ := mnI_some (xs := sc c xs) (fun z => by rw [List.map_eq_nil_iff] at z; subst z; exact nomatch h1)
  rw [mnI_uq h' (n := c * m) (List.mem_map.mpr ⟨m, h1, rfl⟩) (fun y hy => by
    obtain ⟨z, hz, rfl⟩ := List.mem_map.mp hy
    exact mul_mono hc (h2 z hz))] at h'
  exact h'
theorem mx_scn (hc : c ≤ 0) (h : mnI xs = some m) : mxI (sc c xs) = some (c * m) := by
  obtain ⟨h1, h2⟩ := mnI_is h
  obtain ⟨m', h'⟩ := mxI_some (xs := sc c xs) (fun z => by rw [List.map_eq_nil_iff] at z; subst z; exact nomatch h1)
  rw [mxI_uq h' (n := c * m) (List.mem_map.mpr ⟨m, h1, rfl⟩) (fun y hy => by
    obtain ⟨z, hz, rfl⟩ := List.mem_map.mp hy
    exact mul_anti hc (h2 z hz))] at h'
  exact h'
theorem mn_scn (hc : c ≤ 0) (h : mxI xs = some m) : mnI (sc c xs) = some (c * m) := by
  obtain ⟨h1, h2⟩ := mxI_is h
  obtain ⟨m', h'⟩ := mnI_some (xs := sc c xs) (fun z => by rw [List.map_eq_nil_iff] at z; subst z; exact nomatch h1)
  rw [mnI_uq h' (n := c * m) (List.mem_map.mpr ⟨m, h1, rfl⟩) (fun y hy => by
    obtain ⟨z, hz, rfl⟩ := List.mem_map.mp hy
    exact mul_anti hc (h2 z hz))] at h'
  exact h'
end
theorem keep_sc {g g' : Int → Int} {n : Nat} {c : Int} (hc : c ≠ 0) (h : ∀ p, 0 ≤ p → p < (n : Int) → g' p = c * g p) (m : Int) : keepF g' (c * m) n = keepF g m n := by
  unfold keepF
  refine fm_congr fun p hp => ?_
  obtain ⟨p0, p1⟩ := rangeL_mem.mp hp
  rw [h p p0 p1]
  by_cases z : g p = m
  · rw [if_pos z, if_pos (by rw [z])]
  · rw [if_neg z, if_neg (fun e => z (Int.eq_of_mul_eq_mul_left hc e))]
theorem range_sc {g g' : Int → Int} {n : Nat} {c : Int} (h : ∀ p, 0 ≤ p → p < (n : Int) → g' p = c * g p) : (rangeL 0 (n : Int)).map g' = sc c ((rangeL 0 (n : Int)).map g) := by
  show _ = List.map _ (List.map _ _)
  rw [List.map_map]
  refine List.map_congr_left fun p hp => ?_
  obtain ⟨p0, p1⟩ := rangeL_mem.mp hp
  exact h p p0 p1
theorem seatB (t : Tr) (ht : TreeOk t) (hn : t.1.length ≤ 40) {r : Rule} {many : Int} (R : RuleOk r many) (hw1 : ∀ x ∈ t.1, x.natAbs < 2 ^ 100) {w : Int → Int → Nat} {f : Int → Int → List Int} (RF : RowsF t r many w f) (p : Int) (p0 : 0 ≤ p) (p1 : p < (t.1.length : Int)) {v : Int} (hv : m_law_seat t r p = .ok v) : v.natAbs < 2 ^ 90000 := by
  have hlen := ht.len
  obtain ⟨own, o1, o2⟩ := atI_some (xs := t.1) (j := p) p0 p1
  have ho := hw1 own (List.mem_of_getElem? o2)
  have R1 := R.m2
  have Ra := R.la
  obtain ⟨so0, j1, j2, j3, j4⟩ := evalL (evB (many := many) ho) R.ga (by omega)
  have fall : ((nearOf t.2 p).filter fun c => decide (some c ≠ (none : Option Int))) = nearOf t.2 p := List.filter_eq_self.mpr fun c _ => by simp
  have hs := RF.sum p p0 p1
  have z := fold_ok R ho none t p (f p) (w p) (fun y => m_law_branch 99 t r p y.1 y.2) (nearOf t.2 p) so0 205 (fun c hc _ => by
    obtain ⟨lc, hsc⟩ := (near_step ht).mp hc
    rw [step_ln ht hsc]
    exact ⟨RF.law p c lc hsc 99 (by decide), RF.len p c lc hsc, RF.pos p c lc hsc, RF.bnd p c lc hsc⟩) (by omega) j4 (by decide) (by rw [fall]; omega)
  rw [fall] at z
  obtain ⟨so', i1, i2, i3, i4⟩ := z
  obtain ⟨u, v1, v2, v3⟩ := eval2 (evT (many := many) ho i3 i4 (by omega) (by omega)) 12 3 r.d (by decide) (by decide) R.gd
  have e : m_law_seat t r p = .ok u := by
    unfold m_law_seat
    rw [opt_b o1]
    rw [bind_ok (show m_law_row 100 t r p none = .ok so' by
      show m_law_row (99 + 1) t r p none = .ok so'
      unfold m_law_row
      rw [opt_b o1, bind_ok (j2 _ fun y v hv => by rw [bind_ok hv]), bind_ok (near_ok t ht (by omega) p), bind_ok i2])]
    rw [bind_ok v2]
  rw [hv] at e
  rw [Except.ok.inj e]
  exact pow_lt v3 (by omega)
theorem moved_ok {t : Tr} (hn : t.1.length ≤ 100000) (ht : TreeOk t) {c : Int} (hc : c.natAbs < 2 ^ 100) (hw1 : ∀ x ∈ t.1, x.natAbs < 2 ^ 100) (hw2 : ∀ x ∈ t.2, x.c.natAbs < 2 ^ 100) : m_law_moved t c = .ok (mvT t c) := by
  have hlen := ht.len
  have big : (2 : Nat) ^ 100 ≤ 2 ^ 100000 := Nat.pow_le_pow_right (by decide) (by decide)
  unfold m_law_moved
  rw [bind_ok (compS_pure (fun y => some (c * y)) (by omega) fun y hy => by
    rw [chk_b (cmulW (Nat.lt_of_lt_of_le hc big) (Nat.lt_of_lt_of_le (hw1 y hy) big))])]
  rw [bind_ok (compS_pure (fun y => some (mvE c y)) (by omega) fun y hy => by
    rw [chk_b (cmulW (Nat.lt_of_lt_of_le hc big) (Nat.lt_of_lt_of_le (hw2 y hy) big))]
    rfl)]
  rw [List.filterMap_eq_map', List.filterMap_eq_map']
  rfl
theorem moved_all {t : Tr} (ht : TreeOk t) (hn : t.1.length ≤ 40) {many c : Int} {r r' : Rule} {φ : Sm → Sm} (R : RuleOk r many) (R' : RuleOk r' many) (H : RH c many r r' φ) (hc : c.natAbs ≤ 9) (w1 : ∀ x ∈ t.1, x.natAbs ≤ 10 ^ 20) (w2 : ∀ x ∈ t.2, x.c.natAbs ≤ 10 ^ 20)
    {w : Int → Int → Nat} {f : Int → Int → List Int} (RF : RowsF t r many w f) {g : Int → Int} (hg : ∀ p, 0 ≤ p → p < (t.1.length : Int) → m_law_seat t r p = .ok (g p)) :
    ∃ g' : Int → Int, m_law_moved t c = .ok (mvT t c) ∧ m_all_seats (mvT t c) r' = .ok ((rangeL 0 ((mvT t c).1.length : Int)).map g') ∧ (∀ p, 0 ≤ p → p < (t.1.length : Int) → g' p = c * g p) ∧ m_all_rows (mvT t c) r' = .ok ((brs t).map fun p => (p, sc c (f p.1 p.2))) := by
  have b : ∀ y : Int, y.natAbs ≤ 10 ^ 20 → (c * y).natAbs < 2 ^ 100 := fun y hy => by
    rw [Int.natAbs_mul]
    exact Nat.lt_of_le_of_lt (Nat.mul_le_mul hc hy) (by decide)
  have s : ∀ y : Int, y.natAbs ≤ 10 ^ 20 → y.natAbs < 2 ^ 100 := fun y hy => Nat.lt_of_le_of_lt hy (by decide)
  have w1' : ∀ x ∈ (mvT t c).1, x.natAbs < 2 ^ 100 := fun x hx => by
    obtain ⟨y, hy, rfl⟩ := List.mem_map.mp hx
    exact b y (w1 y hy)
  have w2' : ∀ x ∈ (mvT t c).2, x.c.natAbs < 2 ^ 100 := fun x hx => by
    obtain ⟨y, hy, rfl⟩ := List.mem_map.mp hx
    exact b y.c (w2 y hy)
  have tl := mv_len (t := t) (c := c)
  have ht' := mv_tree (c := c) ht
  obtain ⟨w', f', RF'⟩ := rowsF (mvT t c) ht' (by omega) R' w1' w2'
  obtain ⟨g', hg', ha'⟩ := all_seats_ok (mvT t c) ht' (by omega) R' w1' w2'
  have hw1 : ∀ x ∈ t.1, x.natAbs < 2 ^ 100 := fun x hx => s x (w1 x hx)
  have hr := rows_hom ht H RF RF'
  refine ⟨g', moved_ok (by omega) ht (Nat.lt_of_le_of_lt hc (by decide)) hw1 (fun x hx => s x.c (w2 x hx)), ha', seats_hom ht hn H R R' hw1 w1' RF RF' hg hg', ?_⟩
  rw [all_rows_ok (mvT t c) ht' (by omega) R' RF', mv_brs]
  refine congrArg Except.ok (List.map_congr_left fun p hp => ?_)
  obtain ⟨l, hs⟩ := (near_step ht).mp ((brs_mem ht).mp hp)
  rw [hr p.1 p.2 l hs]
theorem law_true (ns : List Int) (h : ns.length ≤ 63) : m_law ns = .ok true := by
  unfold m_law
  have hc := cut10 ns 3
  have hc : (cutL ns none (some (3 : Int))).length ≤ ns.length := hc
  rw [chk_b (show ([((10 : Int) ^ Int.toNat (18 : Int))]).length + (cutL ns none (some (3 : Int))).length < 16777216 by simp only [List.length_singleton]; omega)]
  rw [bind_ok (loopM_all fun c _ => ?_)]
  obtain ⟨d, e1⟩ := deck_ok c
  rw [bind_ok e1]
  obtain ⟨k, d1, e2, k0, k4⟩ := take_small d 4 (by decide) (by decide)
  rw [bind_ok e2]
  obtain ⟨m, e3, hm⟩ := at4 k k0 k4
  show (opt (atI [(10 : Int), 10, 10, 40] k) >>= _) = _
  rw [opt_b e3]
  obtain ⟨k', d2, e4, k0', k3'⟩ := take_small d1 3 (by decide) (by decide)
  show (m_law_take [d1] 3 >>= _) = _
  rw [bind_ok e4]
  obtain ⟨far, f1, f2⟩ := atI_some (xs := [(4 : Int), 1000, (10 : Int) ^ Int.toNat 20]) (j := k') k0' (by simpa using k3')
  have hfar : 0 ≤ far ∧ far ≤ 100000000000000000000 := by
    have hm := List.mem_of_getElem? f2
    rw [show (10 : Int) ^ Int.toNat 20 = 100000000000000000000 by decide] at hm
    simp only [List.mem_cons, List.not_mem_nil, or_false] at hm
    omega
  show (opt (atI [(4 : Int), 1000, (10 : Int) ^ Int.toNat 20] k') >>= _) = _
  rw [opt_b f1]
  obtain ⟨t, d3, e5, ht, hl, ww, wc⟩ := tree_ok d2 m far (by omega) (by omega) hfar.1 (by unfold farB; omega)
  show (m_law_tree [d2] m far >>= _) = _
  rw [bind_ok e5]
  have p20 : (10 : Nat) ^ 20 = 100000000000000000000 := by decide
  have b20 : ∀ x : Int, -far ≤ x ∧ x ≤ far → x.natAbs ≤ 10 ^ 20 := fun x hx => by rw [p20]; omega
  have w1 : ∀ x ∈ t.1, x.natAbs ≤ 10 ^ 20 := fun x hx => b20 x (ww x hx)
  have w2 : ∀ x ∈ t.2, x.c.natAbs ≤ 10 ^ 20 := fun x hx => b20 _ (wc x hx)
  have big20 : (10 : Nat) ^ 20 < 2 ^ 100 := by decide
  have v1 : ∀ x ∈ t.1, x.natAbs < 2 ^ 100 := fun x hx => Nat.lt_of_le_of_lt (w1 x hx) big20
  have v2 : ∀ x ∈ t.2, x.c.natAbs < 2 ^ 100 := fun x hx => Nat.lt_of_le_of_lt (w2 x hx) big20
  have hlen := ht.len
  have hpos := ht.pos
  have hn : t.1.length ≤ 40 := by omega
  obtain ⟨r, d4, many, e7, R⟩ := plain_ok d3
  show (m_law_plain_rule [d3] >>= _) = _
  rw [bind_ok e7]
  obtain ⟨k9, d5, e8, k90, k99⟩ := take_small d4 9 (by decide) (by decide)
  show (m_law_take [d4] 9 >>= _) = _
  rw [bind_ok e8]
  obtain ⟨w, f, RF⟩ := rowsF t ht hn R.ok v1 v2
  obtain ⟨g, hg, ha⟩ := all_seats_ok t ht hn R.ok v1 v2
  have har := all_rows_ok t ht (by omega) R.ok RF
  show (m_all_rows t r >>= _) = _
  rw [bind_ok har]
  show (m_all_seats t r >>= _) = _
  rw [bind_ok ha]
  obtain ⟨by_, hby⟩ : ∃ z, z = (1 : Int) + k9 := ⟨_, rfl⟩
  have hb1 : 1 ≤ by_ ∧ by_ ≤ 9 := by omega
  show (m_law_moved t ((1 : Int) + k9) >>= _) = _
  rw [← hby]
  have tl : ∀ c : Int, (mvT t c).1.length = t.1.length := fun c => mv_len
  obtain ⟨g1, n1, n2, n3, n4⟩ := moved_all ht hn R.ok R.ok (R.hom (c := by_) (by omega)) (by omega) w1 w2 RF hg
  obtain ⟨g2, o1, o2, o3, o4⟩ := moved_all ht hn R.ok R.ex.ok (R.homx (c := -1) (by omega)) (by omega) w1 w2 RF hg
  rw [bind_ok n1]
  show (m_all_seats (mvT t by_) r >>= _) = _
  rw [bind_ok n2]
  have big : (2 : Nat) ^ 90000 ≤ 2 ^ 100000 := Nat.pow_le_pow_right (by decide) (by decide)
  have bby : by_.natAbs < 2 ^ 100000 := Nat.lt_of_lt_of_le (show by_.natAbs < 2 ^ 4 by omega) (Nat.pow_le_pow_right (by decide) (by decide))
  have rl : ((rangeL 0 (t.1.length : Int)).map g).length < 16777216 := by rw [List.length_map, rangeL_length]; omega
  rw [bind_ok (compS_pure (fun y => some (by_ * y)) rl fun y hy => by
    obtain ⟨p, hp, rfl⟩ := List.mem_map.mp hy
    obtain ⟨p0, p1⟩ := rangeL_mem.mp hp
    rw [chk_b (cmulW bby (Nat.lt_of_lt_of_le (seatB t ht hn R.ok v1 RF p p0 p1 (hg p p0 p1)) big))])]
  rw [List.filterMap_eq_map']
  have es1 := range_sc (g := g) (g' := g1) (n := t.1.length) (c := by_) n3
  have es2 := range_sc (g := g) (g' := g2) (n := t.1.length) (c := -1) o3
  rw [if_neg (fun z => z (by rw [tl]; exact es1))]
  show (m_all_rows (mvT t by_) r >>= _) = _
  rw [bind_ok n4]
  have w40 : ∀ a b l, Step t a b l → w a b ≤ 40 := fun a b l hs => by
    have := RF.sum a (step_rg ht hs).1.1 (step_rg ht hs).1.2
    have := sumF_mem (f := w a) ((near_step ht).mpr ⟨l, hs⟩)
    omega
  have bl := brs_len (t := t)
  rw [bind_ok (compS_pure (fun (y : (Int × Int) × List Int) => some (y.1, sc by_ y.2)) (by rw [List.length_map]; omega) fun y hy => by
    obtain ⟨p, hp, rfl⟩ := List.mem_map.mp hy
    obtain ⟨l, hs⟩ := (near_step ht).mp ((brs_mem ht).mp hp)
    have m2 := R.m2
    have ln := RF.len p.1 p.2 l hs
    rw [bind_ok (compS_pure (fun z => some (by_ * z)) (by show (f p.1 p.2).length < 16777216; omega) fun z hz => by
      rw [chk_b (cmulW bby (Nat.lt_of_lt_of_le (RF.bnd p.1 p.2 l hs z hz) (Nat.pow_le_pow_right (by decide) (by have := w40 p.1 p.2 l hs; omega))))])]
    rw [List.filterMap_eq_map'])]
  rw [List.filterMap_eq_map', List.map_map]
  rw [if_neg (fun z => z rfl)]
  have hne : (rangeL 0 (t.1.length : Int)).map g ≠ [] := fun z => by
    have h2 : ((rangeL 0 (t.1.length : Int)).map g).length = t.1.length := by rw [List.length_map, rangeL_length]; omega
    rw [z] at h2
    simp at h2
    omega
  obtain ⟨mx, hmx⟩ := mxI_some hne
  obtain ⟨mn, hmn⟩ := mnI_some hne
  have bt := best_ok (by omega) ha hmx
  have lt := least_ok (by omega) ha hmn
  have b1 := best_ok (t := mvT t by_) (mx := by_ * mx) (by rw [tl]; omega) n2 (by rw [tl, es1]; exact mx_sc (by omega) hmx)
  have l1 := least_ok (t := mvT t by_) (mn := by_ * mn) (by rw [tl]; omega) n2 (by rw [tl, es1]; exact mn_sc (by omega) hmn)
  have b2 := best_ok (t := mvT t (-1)) (mx := -1 * mn) (by rw [tl]; omega) o2 (by rw [tl, es2]; exact mx_scn (by omega) hmn)
  have l2 := least_ok (t := mvT t (-1)) (mn := -1 * mx) (by rw [tl]; omega) o2 (by rw [tl, es2]; exact mn_scn (by omega) hmx)
  rw [tl, keep_sc (by omega) n3] at b1 l1
  rw [tl, keep_sc (by omega) o3] at b2 l2
  show (m_best_seats (mvT t by_) r >>= _) = _
  rw [bind_ok b1]
  show (m_best_seats t r >>= _) = _
  rw [bind_ok bt, if_neg (fun z => z rfl)]
  show (m_least_seats (mvT t by_) r >>= _) = _
  rw [bind_ok l1]
  show (m_least_seats t r >>= _) = _
  rw [bind_ok lt, if_neg (fun z => z rfl)]
  have xs : ∀ {ws : List Str} (xs : List Sm), xs.length < 16777216 → (∀ x ∈ xs, Pl ws many 3 x) → compS (fun (y507 : Sm) (st524 : Unit) => m_law_exchanged 12 y507 >>= fun r530 => .ok (some r530, ())) xs () = .ok (xs.map exP, ()) := fun {ws} xs hl hp => by
    rw [compS_pure (fun y => some (exP y)) hl fun y hy => by rw [bind_ok (exch_ok 12 3 y (by decide) (hp y hy))], List.filterMap_eq_map']
  have Rm := R.m2
  have Ra := R.la
  have Rb := R.lb
  have Rc := R.lc
  rw [bind_ok (compS_pure (fun (y : List Sm) => some (y.map exP)) (by show 3 < 16777216; decide) fun y hy => by
    simp only [List.mem_cons, List.not_mem_nil, or_false] at hy
    rcases hy with e | e | e <;> subst e
    · rw [bind_ok (xs r.a (by omega) R.ga)]
    · rw [bind_ok (xs r.b (by omega) R.gb)]
    · rw [bind_ok (xs r.c (by omega) R.gc)])]
  rw [List.filterMap_eq_map']
  show (opt (L2.atI [r.a.map exP, r.b.map exP, r.c.map exP] (0 : Int)) >>= _) = _
  rw [opt_b (show L2.atI [r.a.map exP, r.b.map exP, r.c.map exP] (0 : Int) = some (r.a.map exP) from rfl)]
  show (opt (L2.atI [r.a.map exP, r.b.map exP, r.c.map exP] (1 : Int)) >>= _) = _
  rw [opt_b (show L2.atI [r.a.map exP, r.b.map exP, r.c.map exP] (1 : Int) = some (r.b.map exP) from rfl)]
  show (opt (L2.atI [r.a.map exP, r.b.map exP, r.c.map exP] (2 : Int)) >>= _) = _
  rw [opt_b (show L2.atI [r.a.map exP, r.b.map exP, r.c.map exP] (2 : Int) = some (r.c.map exP) from rfl)]
  show (m_law_exchanged 12 r.d >>= _) = _
  rw [bind_ok (exch_ok 12 3 r.d (by decide) R.gd)]
  show (m_law_moved t (-1) >>= _) = _
  rw [bind_ok o1]
  show (m_all_seats (mvT t (-1)) (exR r) >>= _) = _
  rw [bind_ok o2]
  rw [bind_ok (compS_pure (fun y => some (0 - y)) rl fun y hy => rfl), List.filterMap_eq_map']
  rw [if_neg (fun z => z (by
    rw [tl, es2]
    refine List.map_congr_left fun y _ => ?_
    show -1 * y = 0 - y
    omega))]
  show (m_best_seats (mvT t (-1)) (exR r) >>= _) = _
  rw [bind_ok b2]
  show (m_least_seats t r >>= _) = _
  rw [bind_ok lt, if_neg (fun z => z rfl)]
  show (m_least_seats (mvT t (-1)) (exR r) >>= _) = _
  rw [bind_ok l2]
  show (m_best_seats t r >>= _) = _
  rw [bind_ok bt, if_neg (fun z => z rfl)]

theorem all_mk {P : Program} {w : World} {K : PySem.W.Frag} {h : Heap} {mg : Str → Option Value} {fa f1 f2 f3 f4 f5 f6 f7 f8 f9 f10 f11 f12 f13 f14 f15 f16 f17 f18 f19 f20 f21 f22 f23 f24 f25 f26 f27 f28 f29 f30 C_NoRule : Addr} {od1 an1 od2 an2 od3 an3 od4 an4 od5 an5 od6 an6 od7 an7 od8 an8 od9 an9 od10 an10 od11 an11 od12 an12 od13 an13 od14 an14 od15 an15 od16 an16 od17 an17 od18 an18 od19 an19 od20 an20 od21 an21 od22 an22 od23 an23 od24 an24 od25 an25 od26 an26 od27 an27 od28 an28 od29 an29 od30 an30 : Option Addr} {sl1 sl2 sl3 sl4 sl5 sl6 sl7 sl8 sl9 sl10 sl11 sl12 sl13 sl14 sl15 sl16 sl17 sl18 sl19 sl20 sl21 sl22 sl23 sl24 sl25 sl26 sl27 sl28 sl29 sl30 : Array (Option Value)} {oc1 kV1 dc1 pm1 cd1 ct1 oc2 kV2 dc2 pm2 cd2 ct2 oc3 kV3 dc3 pm3 cd3 ct3 oc4 kV4 dc4 pm4 cd4 ct4 oc5 kV5 dc5 pm5 cd5 ct5 oc6 kV6 dc6 pm6 cd6 ct6 oc7 kV7 dc7 pm7 cd7 ct7 oc8 kV8 dc8 pm8 cd8 ct8 oc9 kV9 dc9 pm9 cd9 ct9 oc10 kV10 dc10 pm10 cd10 ct10 oc11 kV11 dc11 pm11 cd11 ct11 oc12 kV12 dc12 pm12 cd12 ct12 oc13 kV13 dc13 pm13 cd13 ct13 oc14 kV14 dc14 pm14 cd14 ct14 oc15 kV15 dc15 pm15 cd15 ct15 oc16 kV16 dc16 pm16 cd16 ct16 oc17 kV17 dc17 pm17 cd17 ct17 oc18 kV18 dc18 pm18 cd18 ct18 oc19 kV19 dc19 pm19 cd19 ct19 oc20 kV20 dc20 pm20 cd20 ct20 oc21 kV21 dc21 pm21 cd21 ct21 oc22 kV22 dc22 pm22 cd22 ct22 oc23 kV23 dc23 pm23 cd23 ct23 oc24 kV24 dc24 pm24 cd24 ct24 oc25 kV25 dc25 pm25 cd25 ct25 oc26 kV26 dc26 pm26 cd26 ct26 oc27 kV27 dc27 pm27 cd27 ct27 oc28 kV28 dc28 pm28 cd28 ct28 oc29 kV29 dc29 pm29 cd29 ct29 oc30 kV30 dc30 pm30 cd30 ct30 : Value} {tk_MOST : Tok} (X : K.In h) (G : h.Ns mainGlobals mg) (hfa : mg "law" = some (.ref fa))
    (a1 : PySem.W.nsIn K mainGlobals "may_stand" = some (some (.ref f1))) (l1 : K.lookup f1 = some ⟨oc1, od1, .func (PySem.W.fnOf "may_stand" "may_stand" (defArgs s_may_stand) (defBody s_may_stand) (defScope s_may_stand) .none kV1 dc1 pm1 an1 cd1 ct1), sl1⟩) (c1 : PySem.W.codeIn K cd1 "may_stand" = true) (k1 : PySem.W.keepIn K (.ref f1) = true)
    (a2 : PySem.W.nsIn K mainGlobals "is_rule" = some (some (.ref f2))) (l2 : K.lookup f2 = some ⟨oc2, od2, .func (PySem.W.fnOf "is_rule" "is_rule" (defArgs s_is_rule) (defBody s_is_rule) (defScope s_is_rule) .none kV2 dc2 pm2 an2 cd2 ct2), sl2⟩) (c2 : PySem.W.codeIn K cd2 "is_rule" = true) (k2 : PySem.W.keepIn K (.ref f2) = true)
    (a3 : PySem.W.nsIn K mainGlobals "need_rule" = some (some (.ref f3))) (l3 : K.lookup f3 = some ⟨oc3, od3, .func (PySem.W.fnOf "need_rule" "need_rule" (defArgs s_need_rule) (defBody s_need_rule) (defScope s_need_rule) .none kV3 dc3 pm3 an3 cd3 ct3), sl3⟩) (c3 : PySem.W.codeIn K cd3 "need_rule" = true) (k3 : PySem.W.keepIn K (.ref f3) = true)
    (a4 : PySem.W.nsIn K mainGlobals "sum_at" = some (some (.ref f4))) (l4 : K.lookup f4 = some ⟨oc4, od4, .func (PySem.W.fnOf "sum_at" "sum_at" (defArgs s_sum_at) (defBody s_sum_at) (defScope s_sum_at) .none kV4 dc4 pm4 an4 cd4 ct4), sl4⟩) (c4 : PySem.W.codeIn K cd4 "sum_at" = true) (k4 : PySem.W.keepIn K (.ref f4) = true)
    (a5 : PySem.W.nsIn K mainGlobals "begun" = some (some (.ref f5))) (l5 : K.lookup f5 = some ⟨oc5, od5, .func (PySem.W.fnOf "begun" "begun" (defArgs s_begun) (defBody s_begun) (defScope s_begun) .none kV5 dc5 pm5 an5 cd5 ct5), sl5⟩) (c5 : PySem.W.codeIn K cd5 "begun" = true) (k5 : PySem.W.keepIn K (.ref f5) = true)
    (a6 : PySem.W.nsIn K mainGlobals "joined" = some (some (.ref f6))) (l6 : K.lookup f6 = some ⟨oc6, od6, .func (PySem.W.fnOf "joined" "joined" (defArgs s_joined) (defBody s_joined) (defScope s_joined) .none kV6 dc6 pm6 an6 cd6 ct6), sl6⟩) (c6 : PySem.W.codeIn K cd6 "joined" = true) (k6 : PySem.W.keepIn K (.ref f6) = true)
    (a7 : PySem.W.nsIn K mainGlobals "over_tie" = some (some (.ref f7))) (l7 : K.lookup f7 = some ⟨oc7, od7, .func (PySem.W.fnOf "over_tie" "over_tie" (defArgs s_over_tie) (defBody s_over_tie) (defScope s_over_tie) .none kV7 dc7 pm7 an7 cd7 ct7), sl7⟩) (c7 : PySem.W.codeIn K cd7 "over_tie" = true) (k7 : PySem.W.keepIn K (.ref f7) = true)
    (a8 : PySem.W.nsIn K mainGlobals "told_by" = some (some (.ref f8))) (l8 : K.lookup f8 = some ⟨oc8, od8, .func (PySem.W.fnOf "told_by" "told_by" (defArgs s_told_by) (defBody s_told_by) (defScope s_told_by) .none kV8 dc8 pm8 an8 cd8 ct8), sl8⟩) (c8 : PySem.W.codeIn K cd8 "told_by" = true) (k8 : PySem.W.keepIn K (.ref f8) = true)
    (a9 : PySem.W.nsIn K mainGlobals "tied_places" = some (some (.ref f9))) (l9 : K.lookup f9 = some ⟨oc9, od9, .func (PySem.W.fnOf "tied_places" "tied_places" (defArgs s_tied_places) (defBody s_tied_places) (defScope s_tied_places) .none kV9 dc9 pm9 an9 cd9 ct9), sl9⟩) (c9 : PySem.W.codeIn K cd9 "tied_places" = true) (k9 : PySem.W.keepIn K (.ref f9) = true)
    (a10 : PySem.W.nsIn K mainGlobals "lengths_of" = some (some (.ref f10))) (l10 : K.lookup f10 = some ⟨oc10, od10, .func (PySem.W.fnOf "lengths_of" "lengths_of" (defArgs s_lengths_of) (defBody s_lengths_of) (defScope s_lengths_of) .none kV10 dc10 pm10 an10 cd10 ct10), sl10⟩) (c10 : PySem.W.codeIn K cd10 "lengths_of" = true) (k10 : PySem.W.keepIn K (.ref f10) = true)
    (a11 : PySem.W.nsIn K mainGlobals "every_branch" = some (some (.ref f11))) (l11 : K.lookup f11 = some ⟨oc11, od11, .func (PySem.W.fnOf "every_branch" "every_branch" (defArgs s_every_branch) (defBody s_every_branch) (defScope s_every_branch) .none kV11 dc11 pm11 an11 cd11 ct11), sl11⟩) (c11 : PySem.W.codeIn K cd11 "every_branch" = true) (k11 : PySem.W.keepIn K (.ref f11) = true)
    (a12 : PySem.W.nsIn K mainGlobals "row_with" = some (some (.ref f12))) (l12 : K.lookup f12 = some ⟨oc12, od12, .func (PySem.W.fnOf "row_with" "row_with" (defArgs s_row_with) (defBody s_row_with) (defScope s_row_with) .none kV12 dc12 pm12 an12 cd12 ct12), sl12⟩) (c12 : PySem.W.codeIn K cd12 "row_with" = true) (k12 : PySem.W.keepIn K (.ref f12) = true)
    (a13 : PySem.W.nsIn K mainGlobals "order_of" = some (some (.ref f13))) (l13 : K.lookup f13 = some ⟨oc13, od13, .func (PySem.W.fnOf "order_of" "order_of" (defArgs s_order_of) (defBody s_order_of) (defScope s_order_of) .none kV13 dc13 pm13 an13 cd13 ct13), sl13⟩) (c13 : PySem.W.codeIn K cd13 "order_of" = true) (k13 : PySem.W.keepIn K (.ref f13) = true)
    (a14 : PySem.W.nsIn K mainGlobals "rows_known" = some (some (.ref f14))) (l14 : K.lookup f14 = some ⟨oc14, od14, .func (PySem.W.fnOf "rows_known" "rows_known" (defArgs s_rows_known) (defBody s_rows_known) (defScope s_rows_known) .none kV14 dc14 pm14 an14 cd14 ct14), sl14⟩) (c14 : PySem.W.codeIn K cd14 "rows_known" = true) (k14 : PySem.W.keepIn K (.ref f14) = true)
    (a15 : PySem.W.nsIn K mainGlobals "seats_by" = some (some (.ref f15))) (l15 : K.lookup f15 = some ⟨oc15, od15, .func (PySem.W.fnOf "seats_by" "seats_by" (defArgs s_seats_by) (defBody s_seats_by) (defScope s_seats_by) .none kV15 dc15 pm15 an15 cd15 ct15), sl15⟩) (c15 : PySem.W.codeIn K cd15 "seats_by" = true) (k15 : PySem.W.keepIn K (.ref f15) = true)
    (a16 : PySem.W.nsIn K mainGlobals "all_rows" = some (some (.ref f16))) (l16 : K.lookup f16 = some ⟨oc16, od16, .func (PySem.W.fnOf "all_rows" "all_rows" (defArgs s_all_rows) (defBody s_all_rows) (defScope s_all_rows) .none kV16 dc16 pm16 an16 cd16 ct16), sl16⟩) (c16 : PySem.W.codeIn K cd16 "all_rows" = true) (k16 : PySem.W.keepIn K (.ref f16) = true)
    (a17 : PySem.W.nsIn K mainGlobals "all_seats" = some (some (.ref f17))) (l17 : K.lookup f17 = some ⟨oc17, od17, .func (PySem.W.fnOf "all_seats" "all_seats" (defArgs s_all_seats) (defBody s_all_seats) (defScope s_all_seats) .none kV17 dc17 pm17 an17 cd17 ct17), sl17⟩) (c17 : PySem.W.codeIn K cd17 "all_seats" = true) (k17 : PySem.W.keepIn K (.ref f17) = true)
    (a18 : PySem.W.nsIn K mainGlobals "best_seats" = some (some (.ref f18))) (l18 : K.lookup f18 = some ⟨oc18, od18, .func (PySem.W.fnOf "best_seats" "best_seats" (defArgs s_best_seats) (defBody s_best_seats) (defScope s_best_seats) .none kV18 dc18 pm18 an18 cd18 ct18), sl18⟩) (c18 : PySem.W.codeIn K cd18 "best_seats" = true) (k18 : PySem.W.keepIn K (.ref f18) = true)
    (a19 : PySem.W.nsIn K mainGlobals "least_seats" = some (some (.ref f19))) (l19 : K.lookup f19 = some ⟨oc19, od19, .func (PySem.W.fnOf "least_seats" "least_seats" (defArgs s_least_seats) (defBody s_least_seats) (defScope s_least_seats) .none kV19 dc19 pm19 an19 cd19 ct19), sl19⟩) (c19 : PySem.W.codeIn K cd19 "least_seats" = true) (k19 : PySem.W.keepIn K (.ref f19) = true)
    (a20 : PySem.W.nsIn K mainGlobals "_law_stir" = some (some (.ref f20))) (l20 : K.lookup f20 = some ⟨oc20, od20, .func (PySem.W.fnOf "_law_stir" "_law_stir" (defArgs s_law_stir) (defBody s_law_stir) (defScope s_law_stir) .none kV20 dc20 pm20 an20 cd20 ct20), sl20⟩) (c20 : PySem.W.codeIn K cd20 "_law_stir" = true) (k20 : PySem.W.keepIn K (.ref f20) = true)
    (a21 : PySem.W.nsIn K mainGlobals "_law_deck" = some (some (.ref f21))) (l21 : K.lookup f21 = some ⟨oc21, od21, .func (PySem.W.fnOf "_law_deck" "_law_deck" (defArgs s_law_deck) (defBody s_law_deck) (defScope s_law_deck) .none kV21 dc21 pm21 an21 cd21 ct21), sl21⟩) (c21 : PySem.W.codeIn K cd21 "_law_deck" = true) (k21 : PySem.W.keepIn K (.ref f21) = true)
    (a22 : PySem.W.nsIn K mainGlobals "_law_take" = some (some (.ref f22))) (l22 : K.lookup f22 = some ⟨oc22, od22, .func (PySem.W.fnOf "_law_take" "_law_take" (defArgs s_law_take) (defBody s_law_take) (defScope s_law_take) .none kV22 dc22 pm22 an22 cd22 ct22), sl22⟩) (c22 : PySem.W.codeIn K cd22 "_law_take" = true) (k22 : PySem.W.keepIn K (.ref f22) = true)
    (a23 : PySem.W.nsIn K mainGlobals "_law_number" = some (some (.ref f23))) (l23 : K.lookup f23 = some ⟨oc23, od23, .func (PySem.W.fnOf "_law_number" "_law_number" (defArgs s_law_number) (defBody s_law_number) (defScope s_law_number) .none kV23 dc23 pm23 an23 cd23 ct23), sl23⟩) (c23 : PySem.W.codeIn K cd23 "_law_number" = true) (k23 : PySem.W.keepIn K (.ref f23) = true)
    (a24 : PySem.W.nsIn K mainGlobals "_law_order" = some (some (.ref f24))) (l24 : K.lookup f24 = some ⟨oc24, od24, .func (PySem.W.fnOf "_law_order" "_law_order" (defArgs s_law_order) (defBody s_law_order) (defScope s_law_order) .none kV24 dc24 pm24 an24 cd24 ct24), sl24⟩) (c24 : PySem.W.codeIn K cd24 "_law_order" = true) (k24 : PySem.W.keepIn K (.ref f24) = true)
    (a25 : PySem.W.nsIn K mainGlobals "_law_tree" = some (some (.ref f25))) (l25 : K.lookup f25 = some ⟨oc25, od25, .func (PySem.W.fnOf "_law_tree" "_law_tree" (defArgs s_law_tree) (defBody s_law_tree) (defScope s_law_tree) .none kV25 dc25 pm25 an25 cd25 ct25), sl25⟩) (c25 : PySem.W.codeIn K cd25 "_law_tree" = true) (k25 : PySem.W.keepIn K (.ref f25) = true)
    (a26 : PySem.W.nsIn K mainGlobals "_law_part" = some (some (.ref f26))) (l26 : K.lookup f26 = some ⟨oc26, od26, .func (PySem.W.fnOf "_law_part" "_law_part" (defArgs s_law_part) (defBody s_law_part) (defScope s_law_part) .none kV26 dc26 pm26 an26 cd26 ct26), sl26⟩) (c26 : PySem.W.codeIn K cd26 "_law_part" = true) (k26 : PySem.W.keepIn K (.ref f26) = true)
    (a27 : PySem.W.nsIn K mainGlobals "_law_plain_rule" = some (some (.ref f27))) (l27 : K.lookup f27 = some ⟨oc27, od27, .func (PySem.W.fnOf "_law_plain_rule" "_law_plain_rule" (defArgs s_law_plain_rule) (defBody s_law_plain_rule) (defScope s_law_plain_rule) .none kV27 dc27 pm27 an27 cd27 ct27), sl27⟩) (c27 : PySem.W.codeIn K cd27 "_law_plain_rule" = true) (k27 : PySem.W.keepIn K (.ref f27) = true)
    (a28 : PySem.W.nsIn K mainGlobals "_law_moved" = some (some (.ref f28))) (l28 : K.lookup f28 = some ⟨oc28, od28, .func (PySem.W.fnOf "_law_moved" "_law_moved" (defArgs s_law_moved) (defBody s_law_moved) (defScope s_law_moved) .none kV28 dc28 pm28 an28 cd28 ct28), sl28⟩) (c28 : PySem.W.codeIn K cd28 "_law_moved" = true) (k28 : PySem.W.keepIn K (.ref f28) = true)
    (a29 : PySem.W.nsIn K mainGlobals "_law_exchanged" = some (some (.ref f29))) (l29 : K.lookup f29 = some ⟨oc29, od29, .func (PySem.W.fnOf "_law_exchanged" "_law_exchanged" (defArgs s_law_exchanged) (defBody s_law_exchanged) (defScope s_law_exchanged) .none kV29 dc29 pm29 an29 cd29 ct29), sl29⟩) (c29 : PySem.W.codeIn K cd29 "_law_exchanged" = true) (k29 : PySem.W.keepIn K (.ref f29) = true)
    (a30 : PySem.W.nsIn K mainGlobals "law" = some (some (.ref f30))) (l30 : K.lookup f30 = some ⟨oc30, od30, .func (PySem.W.fnOf "law" "law" (defArgs s_law) (defBody s_law) (defScope s_law) .none kV30 dc30 pm30 an30 cd30 ct30), sl30⟩) (c30 : PySem.W.codeIn K cd30 "law" = true) (k30 : PySem.W.keepIn K (.ref f30) = true)
    (ga_NoRule : PySem.W.nsIn K mainGlobals "NoRule" = some (some (.ref C_NoRule))) (gx_NoRule : PySem.W.excIn K C_NoRule [.type "ValueError", .type "Exception", .type "BaseException", .type "object"] "ValueError.__new__" = true) (gk_NoRule : PySem.W.keepIn K (.ref C_NoRule) = true) (gb_NoRule : PySem.W.subIn K (.ref C_NoRule) (.type "BaseException") = some true) (gt_NoRule : PySem.W.typeIn K (.ref C_NoRule) = some (.type "type"))
    (zc_MOST : PySem.W.nsIn K mainGlobals "MOST" = some (some (.int 3 tk_MOST)))
    (z_dict : PySem.W.nsIn K mainGlobals "dict" = some none)
    (z_enumerate : PySem.W.nsIn K mainGlobals "enumerate" = some none)
    (z_int : PySem.W.nsIn K mainGlobals "int" = some none)
    (z_len : PySem.W.nsIn K mainGlobals "len" = some none)
    (z_list : PySem.W.nsIn K mainGlobals "list" = some none)
    (z_max : PySem.W.nsIn K mainGlobals "max" = some none)
    (z_min : PySem.W.nsIn K mainGlobals "min" = some none)
    (z_range : PySem.W.nsIn K mainGlobals "range" = some none)
    (z_sorted : PySem.W.nsIn K mainGlobals "sorted" = some none) :
    ∃ fd : FuncData, (∀ (s : Shared) (v : Value), BindsTo s fd ⟨[v], []⟩ [("script", v)]) ∧ ∀ base : Heap, K.In base → base.Ns mainGlobals mg → FnOk P w K mg base (L2.CX P w) 66 fa fd ["script"] (sp_law K) := by
  have e := hfa.symm.trans (PySem.W.mg_of X G a30)
  cases e
  have nb : Nb mg := ⟨PySem.W.mg_none_of X G z_dict, PySem.W.mg_none_of X G z_enumerate, PySem.W.mg_none_of X G z_int, PySem.W.mg_none_of X G z_len, PySem.W.mg_none_of X G z_list, PySem.W.mg_none_of X G z_max, PySem.W.mg_none_of X G z_min, PySem.W.mg_none_of X G z_range, PySem.W.mg_none_of X G z_sorted, ⟨_, PySem.W.mg_of X G zc_MOST, ⟨_, rfl⟩⟩⟩
  have E_NoRule : ∃ C, Xc K mg "NoRule" C := ⟨C_NoRule, PySem.W.mg_of X G ga_NoRule, gx_NoRule, gk_NoRule, gb_NoRule, gt_NoRule⟩
  have F1 := fun_mk (x := "may_stand") (st := s_may_stand) l1 c1 k1
  have D_may_stand : Df K mg "may_stand" "may_stand" s_may_stand ["told", "leaves", "many"] := ⟨_, _, F1, PySem.W.mg_of X G a1, F1.binds (ps := ["told", "leaves", "many"]) fun _ _ _ _ _ _ us hl => match us, hl with | [_, _, _], _ => rfl⟩
  have F2 := fun_mk (x := "is_rule") (st := s_is_rule) l2 c2 k2
  have D_is_rule : Df K mg "is_rule" "is_rule" s_is_rule ["thing"] := ⟨_, _, F2, PySem.W.mg_of X G a2, F2.binds (ps := ["thing"]) fun _ _ _ _ _ _ us hl => match us, hl with | [_], _ => rfl⟩
  have F3 := fun_mk (x := "need_rule") (st := s_need_rule) l3 c3 k3
  have D_need_rule : Df K mg "need_rule" "need_rule" s_need_rule ["rule"] := ⟨_, _, F3, PySem.W.mg_of X G a3, F3.binds (ps := ["rule"]) fun _ _ _ _ _ _ us hl => match us, hl with | [_], _ => rfl⟩
  have F4 := fun_mk (x := "sum_at") (st := s_sum_at) l4 c4 k4
  have D_sum_at : Df K mg "sum_at" "sum_at" s_sum_at ["sum_told", "own", "tie", "so", "more"] := ⟨_, _, F4, PySem.W.mg_of X G a4, F4.binds (ps := ["sum_told", "own", "tie", "so", "more"]) fun _ _ _ _ _ _ us hl => match us, hl with | [_, _, _, _, _], _ => rfl⟩
  have F5 := fun_mk (x := "begun") (st := s_begun) l5 c5 k5
  have D_begun : Df K mg "begun" "begun" s_begun ["rule", "own"] := ⟨_, _, F5, PySem.W.mg_of X G a5, F5.binds (ps := ["rule", "own"]) fun _ _ _ _ _ _ us hl => match us, hl with | [_, _], _ => rfl⟩
  have F6 := fun_mk (x := "joined") (st := s_joined) l6 c6 k6
  have D_joined : Df K mg "joined" "joined" s_joined ["rule", "so", "more", "own"] := ⟨_, _, F6, PySem.W.mg_of X G a6, F6.binds (ps := ["rule", "so", "more", "own"]) fun _ _ _ _ _ _ us hl => match us, hl with | [_, _, _, _], _ => rfl⟩
  have F7 := fun_mk (x := "over_tie") (st := s_over_tie) l7 c7 k7
  have D_over_tie : Df K mg "over_tie" "over_tie" s_over_tie ["rule", "more", "own", "tie"] := ⟨_, _, F7, PySem.W.mg_of X G a7, F7.binds (ps := ["rule", "more", "own", "tie"]) fun _ _ _ _ _ _ us hl => match us, hl with | [_, _, _, _], _ => rfl⟩
  have F8 := fun_mk (x := "told_by") (st := s_told_by) l8 c8 k8
  have D_told_by : Df K mg "told_by" "told_by" s_told_by ["rule", "so", "own"] := ⟨_, _, F8, PySem.W.mg_of X G a8, F8.binds (ps := ["rule", "so", "own"]) fun _ _ _ _ _ _ us hl => match us, hl with | [_, _, _], _ => rfl⟩
  have F9 := fun_mk (x := "tied_places") (st := s_tied_places) l9 c9 k9
  have D_tied_places : Df K mg "tied_places" "tied_places" s_tied_places ["many", "ties"] := ⟨_, _, F9, PySem.W.mg_of X G a9, F9.binds (ps := ["many", "ties"]) fun _ _ _ _ _ _ us hl => match us, hl with | [_, _], _ => rfl⟩
  have F10 := fun_mk (x := "lengths_of") (st := s_lengths_of) l10 c10 k10
  have D_lengths_of : Df K mg "lengths_of" "lengths_of" s_lengths_of ["tree"] := ⟨_, _, F10, PySem.W.mg_of X G a10, F10.binds (ps := ["tree"]) fun _ _ _ _ _ _ us hl => match us, hl with | [_], _ => rfl⟩
  have F11 := fun_mk (x := "every_branch") (st := s_every_branch) l11 c11 k11
  have D_every_branch : Df K mg "every_branch" "every_branch" s_every_branch ["tree"] := ⟨_, _, F11, PySem.W.mg_of X G a11, F11.binds (ps := ["tree"]) fun _ _ _ _ _ _ us hl => match us, hl with | [_], _ => rfl⟩
  have F12 := fun_mk (x := "row_with") (st := s_row_with) l12 c12 k12
  have D_row_with : Df K mg "row_with" "row_with" s_row_with ["tree", "rule", "place", "near"] := ⟨_, _, F12, PySem.W.mg_of X G a12, F12.binds (ps := ["tree", "rule", "place", "near"]) fun _ _ _ _ _ _ us hl => match us, hl with | [_, _, _, _], _ => rfl⟩
  have F13 := fun_mk (x := "order_of") (st := s_order_of) l13 c13 k13
  have D_order_of : Df K mg "order_of" "order_of" s_order_of ["near", "branches"] := ⟨_, _, F13, PySem.W.mg_of X G a13, F13.binds (ps := ["near", "branches"]) fun _ _ _ _ _ _ us hl => match us, hl with | [_, _], _ => rfl⟩
  have F14 := fun_mk (x := "rows_known") (st := s_rows_known) l14 c14 k14
  have D_rows_known : Df K mg "rows_known" "rows_known" s_rows_known ["tree", "rule"] := ⟨_, _, F14, PySem.W.mg_of X G a14, F14.binds (ps := ["tree", "rule"]) fun _ _ _ _ _ _ us hl => match us, hl with | [_, _], _ => rfl⟩
  have F15 := fun_mk (x := "seats_by") (st := s_seats_by) l15 c15 k15
  have D_seats_by : Df K mg "seats_by" "seats_by" s_seats_by ["tree", "rule", "rows"] := ⟨_, _, F15, PySem.W.mg_of X G a15, F15.binds (ps := ["tree", "rule", "rows"]) fun _ _ _ _ _ _ us hl => match us, hl with | [_, _, _], _ => rfl⟩
  have F16 := fun_mk (x := "all_rows") (st := s_all_rows) l16 c16 k16
  have D_all_rows : Df K mg "all_rows" "all_rows" s_all_rows ["tree", "rule"] := ⟨_, _, F16, PySem.W.mg_of X G a16, F16.binds (ps := ["tree", "rule"]) fun _ _ _ _ _ _ us hl => match us, hl with | [_, _], _ => rfl⟩
  have F17 := fun_mk (x := "all_seats") (st := s_all_seats) l17 c17 k17
  have D_all_seats : Df K mg "all_seats" "all_seats" s_all_seats ["tree", "rule"] := ⟨_, _, F17, PySem.W.mg_of X G a17, F17.binds (ps := ["tree", "rule"]) fun _ _ _ _ _ _ us hl => match us, hl with | [_, _], _ => rfl⟩
  have F18 := fun_mk (x := "best_seats") (st := s_best_seats) l18 c18 k18
  have D_best_seats : Df K mg "best_seats" "best_seats" s_best_seats ["tree", "rule"] := ⟨_, _, F18, PySem.W.mg_of X G a18, F18.binds (ps := ["tree", "rule"]) fun _ _ _ _ _ _ us hl => match us, hl with | [_, _], _ => rfl⟩
  have F19 := fun_mk (x := "least_seats") (st := s_least_seats) l19 c19 k19
  have D_least_seats : Df K mg "least_seats" "least_seats" s_least_seats ["tree", "rule"] := ⟨_, _, F19, PySem.W.mg_of X G a19, F19.binds (ps := ["tree", "rule"]) fun _ _ _ _ _ _ us hl => match us, hl with | [_, _], _ => rfl⟩
  have F20 := fun_mk (x := "_law_stir") (st := s_law_stir) l20 c20 k20
  have D_law_stir : Df K mg "_law_stir" "_law_stir" s_law_stir ["cell", "k"] := ⟨_, _, F20, PySem.W.mg_of X G a20, F20.binds (ps := ["cell", "k"]) fun _ _ _ _ _ _ us hl => match us, hl with | [_, _], _ => rfl⟩
  have F21 := fun_mk (x := "_law_deck") (st := s_law_deck) l21 c21 k21
  have D_law_deck : Df K mg "_law_deck" "_law_deck" s_law_deck ["cell"] := ⟨_, _, F21, PySem.W.mg_of X G a21, F21.binds (ps := ["cell"]) fun _ _ _ _ _ _ us hl => match us, hl with | [_], _ => rfl⟩
  have F22 := fun_mk (x := "_law_take") (st := s_law_take) l22 c22 k22
  have D_law_take : Df K mg "_law_take" "_law_take" s_law_take ["deck", "many"] := ⟨_, _, F22, PySem.W.mg_of X G a22, F22.binds (ps := ["deck", "many"]) fun _ _ _ _ _ _ us hl => match us, hl with | [_, _], _ => rfl⟩
  have F23 := fun_mk (x := "_law_number") (st := s_law_number) l23 c23 k23
  have D_law_number : Df K mg "_law_number" "_law_number" s_law_number ["deck", "far"] := ⟨_, _, F23, PySem.W.mg_of X G a23, F23.binds (ps := ["deck", "far"]) fun _ _ _ _ _ _ us hl => match us, hl with | [_, _], _ => rfl⟩
  have F24 := fun_mk (x := "_law_order") (st := s_law_order) l24 c24 k24
  have D_law_order : Df K mg "_law_order" "_law_order" s_law_order ["deck", "many"] := ⟨_, _, F24, PySem.W.mg_of X G a24, F24.binds (ps := ["deck", "many"]) fun _ _ _ _ _ _ us hl => match us, hl with | [_, _], _ => rfl⟩
  have F25 := fun_mk (x := "_law_tree") (st := s_law_tree) l25 c25 k25
  have D_law_tree : Df K mg "_law_tree" "_law_tree" s_law_tree ["deck", "most", "far"] := ⟨_, _, F25, PySem.W.mg_of X G a25, F25.binds (ps := ["deck", "most", "far"]) fun _ _ _ _ _ _ us hl => match us, hl with | [_, _, _], _ => rfl⟩
  have F26 := fun_mk (x := "_law_part") (st := s_law_part) l26 c26 k26
  have D_law_part : Df K mg "_law_part" "_law_part" s_law_part ["deck", "leaves", "many", "deep"] := ⟨_, _, F26, PySem.W.mg_of X G a26, F26.binds (ps := ["deck", "leaves", "many", "deep"]) fun _ _ _ _ _ _ us hl => match us, hl with | [_, _, _, _], _ => rfl⟩
  have F27 := fun_mk (x := "_law_plain_rule") (st := s_law_plain_rule) l27 c27 k27
  have D_law_plain_rule : Df K mg "_law_plain_rule" "_law_plain_rule" s_law_plain_rule ["deck"] := ⟨_, _, F27, PySem.W.mg_of X G a27, F27.binds (ps := ["deck"]) fun _ _ _ _ _ _ us hl => match us, hl with | [_], _ => rfl⟩
  have F28 := fun_mk (x := "_law_moved") (st := s_law_moved) l28 c28 k28
  have D_law_moved : Df K mg "_law_moved" "_law_moved" s_law_moved ["tree", "by"] := ⟨_, _, F28, PySem.W.mg_of X G a28, F28.binds (ps := ["tree", "by"]) fun _ _ _ _ _ _ us hl => match us, hl with | [_, _], _ => rfl⟩
  have F29 := fun_mk (x := "_law_exchanged") (st := s_law_exchanged) l29 c29 k29
  have D_law_exchanged : Df K mg "_law_exchanged" "_law_exchanged" s_law_exchanged ["told"] := ⟨_, _, F29, PySem.W.mg_of X G a29, F29.binds (ps := ["told"]) fun _ _ _ _ _ _ us hl => match us, hl with | [_], _ => rfl⟩
  have F30 := fun_mk (x := "law") (st := s_law) l30 c30 k30
  refine ⟨PySem.W.fnOf "law" "law" (defArgs s_law) (defBody s_law) (defScope s_law) .none kV30 dc30 pm30 an30 cd30 ct30, fun s v => .of_eq rfl, fun base _ _ => ?_⟩
  have C_may_stand : Ca P w K mg base "may_stand" 61 ["told", "leaves", "many"] (sp_may_stand 60 mg) := ok_may_stand nb  D_may_stand 60
  have C_is_rule : Ca P w K mg base "is_rule" 62 ["thing"] (sp_is_rule mg) := ok_is_rule nb C_may_stand  D_is_rule
  have C_need_rule : Ca P w K mg base "need_rule" 63 ["rule"] (sp_need_rule mg) := ok_need_rule nb C_is_rule E_NoRule  D_need_rule
  have C_sum_at : Ca P w K mg base "sum_at" 13 ["sum_told", "own", "tie", "so", "more"] (sp_sum_at 12 mg) := ok_sum_at nb  D_sum_at 12
  have C_begun : Ca P w K mg base "begun" 14 ["rule", "own"] (sp_begun mg) := ok_begun nb C_sum_at  D_begun
  have C_joined : Ca P w K mg base "joined" 14 ["rule", "so", "more", "own"] (sp_joined mg) := ok_joined nb C_sum_at  D_joined
  have C_over_tie : Ca P w K mg base "over_tie" 14 ["rule", "more", "own", "tie"] (sp_over_tie mg) := ok_over_tie nb C_sum_at  D_over_tie
  have C_told_by : Ca P w K mg base "told_by" 14 ["rule", "so", "own"] (sp_told_by mg) := ok_told_by nb C_sum_at  D_told_by
  have C_tied_places := ok_tied_places (P := P) (w := w) (base := base) nb D_tied_places
  have CO_tied_places := ok_tied_places_own (P := P) (w := w) (base := base) nb D_tied_places
  have C_lengths_of : Ca P w K mg base "lengths_of" 1 ["tree"] (sp_lengths_of mg) := ok_lengths_of nb  D_lengths_of
  have C_every_branch : Ca P w K mg base "every_branch" 2 ["tree"] (sp_every_branch mg) := ok_every_branch nb C_lengths_of  D_every_branch
  have C_row_with : Ca P w K mg base "row_with" 15 ["tree", "rule", "place", "near"] (sp_row_with mg) := ok_row_with nb C_begun C_joined  D_row_with
  have C_order_of : Ca P w K mg base "order_of" 1 ["near", "branches"] (sp_order_of mg) := ok_order_of nb  D_order_of
  have C_rows_known : Ca P w K mg base "rows_known" 16 ["tree", "rule"] (sp_rows_known mg) := ok_rows_known nb C_every_branch C_lengths_of C_order_of C_over_tie C_row_with C_tied_places  D_rows_known
  have C_seats_by : Ca P w K mg base "seats_by" 16 ["tree", "rule", "rows"] (sp_seats_by mg) := ok_seats_by nb C_row_with C_tied_places C_told_by  D_seats_by
  have C_all_rows : Ca P w K mg base "all_rows" 64 ["tree", "rule"] (sp_all_rows mg) := ok_all_rows nb C_every_branch C_need_rule C_rows_known  D_all_rows
  have C_all_seats : Ca P w K mg base "all_seats" 64 ["tree", "rule"] (sp_all_seats mg) := ok_all_seats nb C_need_rule C_rows_known C_seats_by  D_all_seats
  have C_best_seats : Ca P w K mg base "best_seats" 65 ["tree", "rule"] (sp_best_seats mg) := ok_best_seats nb C_all_seats  D_best_seats
  have C_least_seats : Ca P w K mg base "least_seats" 65 ["tree", "rule"] (sp_least_seats mg) := ok_least_seats nb C_all_seats  D_least_seats
  have C_law_stir : Ca P w K mg base "_law_stir" 1 ["cell", "k"] (sp_law_stir mg) := ok_law_stir nb  D_law_stir
  have C_law_deck : Ca P w K mg base "_law_deck" 2 ["cell"] (sp_law_deck mg) := ok_law_deck nb C_law_stir  D_law_deck
  have C_law_take : Ca P w K mg base "_law_take" 1 ["deck", "many"] (sp_law_take mg) := ok_law_take nb  D_law_take
  have C_law_number : Ca P w K mg base "_law_number" 2 ["deck", "far"] (sp_law_number mg) := ok_law_number nb C_law_take  D_law_number
  have C_law_order : Ca P w K mg base "_law_order" 2 ["deck", "many"] (sp_law_order mg) := ok_law_order nb C_law_take  D_law_order
  have C_law_tree : Ca P w K mg base "_law_tree" 3 ["deck", "most", "far"] (sp_law_tree mg) := ok_law_tree nb C_law_number C_law_order C_law_take  D_law_tree
  have C_law_part : Ca P w K mg base "_law_part" 7 ["deck", "leaves", "many", "deep"] (sp_law_part 5 mg) := ok_law_part nb C_law_take  D_law_part 5
  have C_law_plain_rule : Ca P w K mg base "_law_plain_rule" 8 ["deck"] (sp_law_plain_rule mg) := ok_law_plain_rule nb C_law_part C_law_take  D_law_plain_rule
  have C_law_moved : Ca P w K mg base "_law_moved" 1 ["tree", "by"] (sp_law_moved mg) := ok_law_moved nb  D_law_moved
  have C_law_exchanged : Ca P w K mg base "_law_exchanged" 13 ["told"] (sp_law_exchanged 12 mg) := ok_law_exchanged nb  D_law_exchanged 12
  exact ok_law nb C_law_deck C_law_exchanged C_law_moved C_law_plain_rule C_law_take C_law_tree C_all_rows C_all_seats C_best_seats C_least_seats F30
theorem walk {l : PySem.W.OpenLaw} {q : Program} {loose : List Str} {XP : (Str → Option Value) → Heap → Prop} {YP : World → Heap → Prop} {d : DefRec} {K : Params → PySem.W.Frag} (hn : l.most = some 63) (hdf : d.params.defaults = [])
    (hY : ∀ (w : World) (h : Heap), YP w h → (K w.params).In h)
    (F : ∀ (w : World) (mg : Str → Option Value) (fa : Addr) (h : Heap), (K w.params).In h → h.Ns mainGlobals mg → mg d.name = some (.ref fa) →
      ∃ fd : FuncData, (∀ (s : Shared) (u : Value), BindsTo s fd ⟨[u], []⟩ [("script", u)]) ∧ ∀ base : Heap, (K w.params).In base → base.Ns mainGlobals mg → FnOk l.prog w (K w.params) mg base (L2.CX l.prog w) 66 fa fd ["script"] (sp_law (K w.params))) :
    PySem.W.WalkO q loose XP YP l.row.toRowW d [] (fun f vs => PySem.call f vs) :=
  L2.walk_of (n := 63) (k := 66) (x := "script") (CX := fun w => L2.CX l.prog w) (sp := fun w => sp_law (K w.params)) hn (by decide) hdf ⟨rfl, by decide, by decide⟩ hY F
    (fun _ H a ns hl _ hS => ⟨H, a, ns, rfl, ⟨Same.refl _, (fun _ h => nomatch h), (fun _ h => nomatch h), List.nodup_nil, (fun _ h => nomatch h)⟩, hS, by rw [law_true ns hl]; exact fun _ _ _ => rfl⟩)
    fun _ _ _ _ _ z => by
      obtain ⟨_, _, _, _, _, _, _, _, _, _, _, _, z⟩ := z
      exact z.elim
end G
open PySem PySem.W PyProof.Rows
set_option maxRecDepth 100000 in
set_option maxHeartbeats 0 in
theorem PySem.Challenge.cw_everyseat_k20_whole_worths_moved_holds : PySem.Challenge.rw_everyseat_k20_whole_worths_moved.Holds := by
  w_on; o_law; k_head; (case hw => w_witness2)
  k_fill
  refine G.walk (l := PySem.Challenge.rw_everyseat_k20_whole_worths_moved) rfl rfl (fun w h Y => PySem.W.kIn_of Y) ?F
  case F =>
    intro w mg fa h KX GG hmg
    refine' G.all_mk KX GG hmg ?a1 ?l1 ?c1 ?k1 ?a2 ?l2 ?c2 ?k2 ?a3 ?l3 ?c3 ?k3 ?a4 ?l4 ?c4 ?k4 ?a5 ?l5 ?c5 ?k5 ?a6 ?l6 ?c6 ?k6 ?a7 ?l7 ?c7 ?k7 ?a8 ?l8 ?c8 ?k8 ?a9 ?l9 ?c9 ?k9 ?a10 ?l10 ?c10 ?k10 ?a11 ?l11 ?c11 ?k11 ?a12 ?l12 ?c12 ?k12 ?a13 ?l13 ?c13 ?k13 ?a14 ?l14 ?c14 ?k14 ?a15 ?l15 ?c15 ?k15 ?a16 ?l16 ?c16 ?k16 ?a17 ?l17 ?c17 ?k17 ?a18 ?l18 ?c18 ?k18 ?a19 ?l19 ?c19 ?k19 ?a20 ?l20 ?c20 ?k20 ?a21 ?l21 ?c21 ?k21 ?a22 ?l22 ?c22 ?k22 ?a23 ?l23 ?c23 ?k23 ?a24 ?l24 ?c24 ?k24 ?a25 ?l25 ?c25 ?k25 ?a26 ?l26 ?c26 ?k26 ?a27 ?l27 ?c27 ?k27 ?a28 ?l28 ?c28 ?k28 ?a29 ?l29 ?c29 ?k29 ?a30 ?l30 ?c30 ?k30 ?ga_NoRule ?gx_NoRule ?gk_NoRule ?gb_NoRule ?gt_NoRule ?zc_MOST ?z_dict ?z_enumerate ?z_int ?z_len ?z_list ?z_max ?z_min ?z_range ?z_sorted
    (case a1 => k_is)
    (case l1 => k_is)
    (case c1 => k_is)
    (case k1 => k_is)
    (case a2 => k_is)
    (case l2 => k_is)
    (case c2 => k_is)
    (case k2 => k_is)
    (case a3 => k_is)
    (case l3 => k_is)
    (case c3 => k_is)
    (case k3 => k_is)
    (case a4 => k_is)
    (case l4 => k_is)
    (case c4 => k_is)
    (case k4 => k_is)
    (case a5 => k_is)
    (case l5 => k_is)
    (case c5 => k_is)
    (case k5 => k_is)
    (case a6 => k_is)
    (case l6 => k_is)
    (case c6 => k_is)
    (case k6 => k_is)
    (case a7 => k_is)
    (case l7 => k_is)
    (case c7 => k_is)
    (case k7 => k_is)
    (case a8 => k_is)
    (case l8 => k_is)
    (case c8 => k_is)
    (case k8 => k_is)
    (case a9 => k_is)
    (case l9 => k_is)
    (case c9 => k_is)
    (case k9 => k_is)
    (case a10 => k_is)
    (case l10 => k_is)
    (case c10 => k_is)
    (case k10 => k_is)
    (case a11 => k_is)
    (case l11 => k_is)
    (case c11 => k_is)
    (case k11 => k_is)
    (case a12 => k_is)
    (case l12 => k_is)
    (case c12 => k_is)
    (case k12 => k_is)
    (case a13 => k_is)
    (case l13 => k_is)
    (case c13 => k_is)
    (case k13 => k_is)
    (case a14 => k_is)
    (case l14 => k_is)
    (case c14 => k_is)
    (case k14 => k_is)
    (case a15 => k_is)
    (case l15 => k_is)
    (case c15 => k_is)
    (case k15 => k_is)
    (case a16 => k_is)
    (case l16 => k_is)
    (case c16 => k_is)
    (case k16 => k_is)
    (case a17 => k_is)
    (case l17 => k_is)
    (case c17 => k_is)
    (case k17 => k_is)
    (case a18 => k_is)
    (case l18 => k_is)
    (case c18 => k_is)
    (case k18 => k_is)
    (case a19 => k_is)
    (case l19 => k_is)
    (case c19 => k_is)
    (case k19 => k_is)
    (case a20 => k_is)
    (case l20 => k_is)
    (case c20 => k_is)
    (case k20 => k_is)
    (case a21 => k_is)
    (case l21 => k_is)
    (case c21 => k_is)
    (case k21 => k_is)
    (case a22 => k_is)
    (case l22 => k_is)
    (case c22 => k_is)
    (case k22 => k_is)
    (case a23 => k_is)
    (case l23 => k_is)
    (case c23 => k_is)
    (case k23 => k_is)
    (case a24 => k_is)
    (case l24 => k_is)
    (case c24 => k_is)
    (case k24 => k_is)
    (case a25 => k_is)
    (case l25 => k_is)
    (case c25 => k_is)
    (case k25 => k_is)
    (case a26 => k_is)
    (case l26 => k_is)
    (case c26 => k_is)
    (case k26 => k_is)
    (case a27 => k_is)
    (case l27 => k_is)
    (case c27 => k_is)
    (case k27 => k_is)
    (case a28 => k_is)
    (case l28 => k_is)
    (case c28 => k_is)
    (case k28 => k_is)
    (case a29 => k_is)
    (case l29 => k_is)
    (case c29 => k_is)
    (case k29 => k_is)
    (case a30 => k_is)
    (case l30 => k_is)
    (case c30 => k_is)
    (case k30 => k_is)
    (case ga_NoRule => k_is)
    (case gx_NoRule => k_exc)
    (case gk_NoRule => k_is)
    (case gb_NoRule => k_is)
    (case gt_NoRule => k_is)
    (case zc_MOST => k_is)
    (case z_dict => k_is)
    (case z_enumerate => k_is)
    (case z_int => k_is)
    (case z_len => k_is)
    (case z_list => k_is)
    (case z_max => k_is)
    (case z_min => k_is)
    (case z_range => k_is)
    (case z_sorted => k_is)
#print axioms PySem.Challenge.cw_everyseat_k20_whole_worths_moved_holds
