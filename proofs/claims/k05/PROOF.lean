import PyProof.Rows.All
import Wide.All
import OpenK.AllK
import Wide.FinOn
import HandS.ForMost
import HandS.ForExc
import HandS.Wide
import HandS.Flow
import HandS.Evl
import HandS.Conv
import HandS.IsInst
import KE.SortData
import KE.DatumMoreOrd
import KE.DatumIndex
import HandS.Walk
import HandS.TupSets
import HandS.TryOnly
import HandS.Codes
import HandS.Dict
import HandS.TupLe
import HandS.List
import KE.KDictPairs
import HandS.Exc
import HandS.ExcIs
import HandS.ExcValue
import PyProof.Rows.CountFlat
import PySem.Challenge.RW_everyseat_k05_no_place
set_option Elab.async false
set_option linter.all false
set_option maxRecDepth 100000
set_option maxHeartbeats 4000000
/-! My own layer over HandS: mirrors in an error monad, represented data, owned cells. -/
namespace PG
open PySem L2

/-! ### the mirrors' monad -/
inductive Er where
  | bad
  | exc (n : String)
  deriving DecidableEq
abbrev M := Except Er
def wp {a : Type} (m : M a) (Q : a → Prop) (E : String → Prop) : Prop :=
  match m with
  | .ok x => Q x
  | .error .bad => False
  | .error (.exc n) => E n
section
variable {a b : Type} {Q : a → Prop} {R : b → Prop} {E E' : String → Prop}
theorem wp_ok {x : a} : wp (Except.ok x : M a) Q E = Q x := rfl
theorem wp_pure {x : a} : wp (pure x : M a) Q E = Q x := rfl
theorem wp_bind {m : M b} {k : b → M a} : wp (m >>= k) Q E ↔ wp m (fun x => wp (k x) Q E) E := by
  cases m with
  | ok x => exact Iff.rfl
  | error e => cases e <;> exact Iff.rfl
theorem wp_call {m : M b} {k : b → M a} {E1 : String → Prop} (h : wp (m >>= k) Q E) (hr : ∀ r, m = .ok r → wp (k r) Q E → R r) (he : ∀ n, E n → E1 n) : wp m R E1 := by
  cases m with
  | ok x => exact hr x rfl h
  | error e =>
    cases e with
    | bad => exact h
    | exc n => exact he n h
/-- the last call of a def -/
theorem wp_tail {m : M a} {E1 : String → Prop} {R : a → Prop} (h : wp m Q E) (hr : ∀ r, m = .ok r → Q r → R r) (he : ∀ n, E n → E1 n) : wp m R E1 := by
  cases m with
  | ok x => exact hr x rfl h
  | error e =>
    cases e with
    | bad => exact h
    | exc n => exact he n h
def bad : M a := .error .bad
def raise (n : String) : M a := .error (.exc n)
theorem wp_bad {P : Prop} (h : wp (bad : M a) Q E) : P := h.elim
/-- a guard -/
@[irreducible] def chk (c : Prop) [Decidable c] : M Unit := if c then .ok () else bad
theorem wp_chk {c : Prop} [Decidable c] {k : Unit → M a} (h : wp (chk c >>= k) Q E) : c ∧ wp (k ()) Q E := by
  unfold chk at h
  by_cases hc : c
  · rw [if_pos hc] at h
    exact ⟨hc, h⟩
  · rw [if_neg hc] at h
    exact h.elim
/-- something that is there -/
def opt (o : Option b) : M b := match o with
  | some x => .ok x
  | none => bad
theorem wp_opt {o : Option b} {k : b → M a} (h : wp (opt o >>= k) Q E) : ∃ x, o = some x ∧ wp (k x) Q E := by
  cases o with
  | none => exact h.elim
  | some x => exact ⟨x, rfl, h⟩
/-- no exception leaves -/
def nox (m : M a) : M a := match m with
  | .ok x => .ok x
  | .error _ => bad
theorem wp_nox {m : M b} {k : b → M a} (h : wp (nox m >>= k) Q E) : ∃ x, m = .ok x ∧ wp (k x) Q E := by
  cases m with
  | ok x => exact ⟨x, rfl, h⟩
  | error e => exact h.elim
theorem wp_of_ok {m : M b} {x : b} (e : m = .ok x) (h : R x) : wp m R E := by
  rw [e]
  exact h
theorem wp_ite {c : Prop} [Decidable c] {x y : M a} (h : wp (if c then x else y) Q E) : (c → wp x Q E) ∧ (¬ c → wp y Q E) := by
  by_cases hc : c
  · rw [if_pos hc] at h
    exact ⟨fun _ => h, fun n => (n hc).elim⟩
  · rw [if_neg hc] at h
    exact ⟨fun p => (hc p).elim, fun _ => h⟩
end

/-! ### loops -/
/-- a turn's end: on to the next, or the def's return -/
inductive Fl (s r : Type) where
  | nx (x : s)
  | rt (x : r)
section
variable {i s r a : Type}
def loopM (b : i → s → M (Fl s r)) : List i → s → M (Fl s r)
  | [], x => .ok (.nx x)
  | y :: ys, x => b y x >>= fun
    | .nx x' => loopM b ys x'
    | .rt z => .ok (.rt z)
/-- a loop without return -/
def loopN (b : i → s → M s) : List i → s → M s
  | [], x => .ok x
  | y :: ys, x => b y x >>= fun x' => loopN b ys x'
def whileM (c : s → M Bool) (b : s → M (Fl s r)) : Nat → s → M (Fl s r)
  | 0, _ => bad
  | n + 1, x => c x >>= fun t => if t = true then b x >>= fun
      | .nx x' => whileM c b n x'
      | .rt z => .ok (.rt z)
    else .ok (.nx x)
def whileN (c : s → M Bool) (b : s → M s) : Nat → s → M s
  | 0, _ => bad
  | n + 1, x => c x >>= fun t => if t = true then b x >>= fun x' => whileN c b n x' else .ok x
/-- a comprehension: f gives an element, or none where the test fails -/
def compN (b : i → s → M (Option a × s)) : List i → s → M (List a × s)
  | [], x => .ok ([], x)
  | y :: ys, x => b y x >>= fun p => compN b ys p.2 >>= fun q => .ok (match p.1 with
    | some z => z :: q.1
    | none => q.1, q.2)
/-- .. that changes nothing -/
def compM (b : i → M (Option a)) : List i → M (List a)
  | [] => .ok []
  | y :: ys => b y >>= fun p => compM b ys >>= fun q => .ok (match p with
    | some z => z :: q
    | none => q)
end

/-! ### what a value stands for -/
open PySem.W (T3 T4 Datum DatumOrd)
mutual
inductive Rep (H : Hp) : V → PyData → Prop
  | non : Rep H .non .none
  | bl (b : Bool) : Rep H (.bl b) (.bool b)
  | int (i : Int) : Rep H (.int i) (.int i)
  | str (x : Str) : Rep H (.str x) (.str x)
  | lst {a : Addr} {xs : List V} {ds : List PyData} : H a = some (.lst xs) → RepA H xs ds → Rep H (.ref a) (.list ds)
  | tup {a : Addr} {xs : List V} {ds : List PyData} : H a = some (.tup xs) → RepA H xs ds → Rep H (.ref a) (.tuple ds)
inductive RepA (H : Hp) : List V → List PyData → Prop
  | nil : RepA H [] []
  | cons {v : V} {vs : List V} {d : PyData} {ds : List PyData} : Rep H v d → RepA H vs ds → RepA H (v :: vs) (d :: ds)
end
mutual
theorem Rep.mono {H H' : Hp} (s : Same H H') : ∀ (d : PyData) (v : V), Rep H v d → Rep H' v d
  | .none, _, h => by cases h; exact .non
  | .bool _, _, h => by cases h; exact .bl _
  | .int _, _, h => by cases h; exact .int _
  | .str _, _, h => by cases h; exact .str _
  | .list ds, _, h => by
    cases h with
    | lst ha hs => exact .lst (s _ _ ha) (RepA.mono s ds _ hs)
  | .tuple ds, _, h => by
    cases h with
    | tup ha hs => exact .tup (s _ _ ha) (RepA.mono s ds _ hs)
  | .dict _, _, h => by cases h
theorem RepA.mono {H H' : Hp} (s : Same H H') : ∀ (ds : List PyData) (vs : List V), RepA H vs ds → RepA H' vs ds
  | [], _, h => by cases h; exact .nil
  | d :: ds, _, h => by
    cases h with
    | cons h1 h2 => exact .cons (Rep.mono s d _ h1) (RepA.mono s ds _ h2)
end
mutual
theorem Rep.dp {K : PySem.W.Frag} {H : Hp} : ∀ (d : PyData) (v : V), Rep H v d → Dp K H v d
  | .none, _, h => by cases h; exact .non
  | .bool _, _, h => by cases h; exact .bl _
  | .int _, _, h => by cases h; exact .int _
  | .str _, _, h => by cases h; exact .str _
  | .list ds, _, h => by
    cases h with
    | lst ha hs => exact .lst (SqL.of ha) (RepA.dp ds _ hs)
  | .tuple ds, _, h => by
    cases h with
    | tup ha hs => exact .tup (SqT.of ha) (RepA.dp ds _ hs)
  | .dict _, _, h => by cases h
theorem RepA.dp {K : PySem.W.Frag} {H : Hp} : ∀ (ds : List PyData) (vs : List V), RepA H vs ds → DpAll K H vs ds
  | [], _, h => by cases h; exact .nil
  | d :: ds, _, h => by
    cases h with
    | cons h1 h2 => exact .cons (Rep.dp d _ h1) (RepA.dp ds _ h2)
end

/-- a Lean type whose values are Python's data -/
class Py (a : Type) where
  toD : a → PyData
instance : Py Int := ⟨.int⟩
instance : Py Bool := ⟨.bool⟩
instance : Py Str := ⟨.str⟩
instance : Py Unit := ⟨fun _ => .none⟩
instance {a : Type} [Py a] : Py (List a) := ⟨fun xs => .list (xs.map Py.toD)⟩
instance {a b : Type} [Py a] [Py b] : Py (a × b) := ⟨fun p => .tuple [Py.toD p.1, Py.toD p.2]⟩
instance {a b c : Type} [Py a] [Py b] [Py c] : Py (T3 a b c) := ⟨fun p => .tuple [Py.toD p.a, Py.toD p.b, Py.toD p.c]⟩
instance {a b c d : Type} [Py a] [Py b] [Py c] [Py d] : Py (T4 a b c d) := ⟨fun p => .tuple [Py.toD p.a, Py.toD p.b, Py.toD p.c, Py.toD p.d]⟩
instance {a : Type} [Py a] : Py (Option a) := ⟨fun o => match o with
  | none => .none
  | some x => Py.toD x⟩
class IsD (a : Type) [Py a] [DecidableEq a] [Datum a] : Prop where
  eq : ∀ x : a, Py.toD x = Datum.toD x
instance : IsD Int := ⟨fun _ => rfl⟩
instance : IsD Bool := ⟨fun _ => rfl⟩
instance : IsD Str := ⟨fun _ => rfl⟩
instance : IsD Unit := ⟨fun _ => rfl⟩
section
variable {a b c d : Type} [Py a] [DecidableEq a] [Datum a] [IsD a] [Py b] [DecidableEq b] [Datum b] [IsD b] [Py c] [DecidableEq c] [Datum c] [IsD c] [Py d] [DecidableEq d] [Datum d] [IsD d]
theorem map_toD (xs : List a) : xs.map (Py.toD : a → PyData) = xs.map Datum.toD := List.map_congr_left fun x _ => IsD.eq x
instance : IsD (List a) := ⟨fun xs => congrArg PyData.list (map_toD xs)⟩
instance : IsD (a × b) := ⟨fun p => by show PyData.tuple [_, _] = PyData.tuple [_, _]; rw [IsD.eq, IsD.eq]⟩
instance : IsD (T3 a b c) := ⟨fun p => by show PyData.tuple [_, _, _] = PyData.tuple [_, _, _]; rw [IsD.eq, IsD.eq, IsD.eq]⟩
instance : IsD (T4 a b c d) := ⟨fun p => by show PyData.tuple [_, _, _, _] = PyData.tuple [_, _, _, _]; rw [IsD.eq, IsD.eq, IsD.eq, IsD.eq]⟩
instance [PySem.W.SomeDatum a] : IsD (Option a) := ⟨fun o => by
  cases o with
  | none => rfl
  | some x => exact IsD.eq x⟩
end

/-- v stands for x -/
def R {a : Type} [Py a] (H : Hp) (v : V) (x : a) : Prop := Rep H v (Py.toD x)
/-- item by item -/
def RL {a : Type} [Py a] (H : Hp) (vs : List V) (xs : List a) : Prop := RepA H vs (xs.map Py.toD)
section
variable {H H' : Hp} {v : V} {vs : List V} {p q : Addr}
theorem R.mono {a : Type} [Py a] {x : a} (h : R H v x) (s : Same H H') : R H' v x := Rep.mono s _ _ h
theorem RL.mono {a : Type} [Py a] {xs : List a} (h : RL H vs xs) (s : Same H H') : RL H' vs xs := RepA.mono s _ _ h
theorem R.int {i : Int} : R H (.int i) i := Rep.int i
theorem R.bl {b : Bool} : R H (.bl b) b := Rep.bl b
theorem R.str {x : Str} : R H (.str x) x := Rep.str x
theorem R.unit {u : Unit} : R H .non u := Rep.non
theorem R.non {a : Type} [Py a] : R H .non (none : Option a) := Rep.non
theorem R.jst {a : Type} [Py a] {x : a} (h : R H v x) : R H v (some x) := h
theorem R.int_ {i : Int} (h : R H v i) : v = .int i := by cases h; rfl
theorem R.bl_ {b : Bool} (h : R H v b) : v = .bl b := by cases h; rfl
theorem R.str_ {x : Str} (h : R H v x) : v = .str x := by cases h; rfl
theorem R.unit_ {u : Unit} (h : R H v u) : v = .non := by cases h; rfl
theorem R.non_ {a : Type} [Py a] (h : R H v (none : Option a)) : v = .non := by cases h; rfl
theorem R.jst_ {a : Type} [Py a] {x : a} (h : R H v (some x)) : R H v x := h
variable {a b c d : Type} [Py a] [Py b] [Py c] [Py d]
theorem R.lst {xs : List a} (ha : H p = some (.lst vs)) (h : RL H vs xs) : R H (.ref p) xs := Rep.lst ha h
theorem R.lst_ {xs : List a} (h : R H v xs) : ∃ p vs, v = .ref p ∧ H p = some (.lst vs) ∧ RL H vs xs := by
  have h' : Rep H v (.list (xs.map Py.toD)) := h
  cases h' with
  | lst ha hs => exact ⟨_, _, rfl, ha, hs⟩
theorem R.t2 {x : a × b} {v1 v2 : V} (ha : H p = some (.tup [v1, v2])) (h1 : R H v1 x.1) (h2 : R H v2 x.2) : R H (.ref p) x := Rep.tup ha (.cons h1 (.cons h2 .nil))
theorem R.t2_ {x : a × b} (h : R H v x) : ∃ p v1 v2, v = .ref p ∧ H p = some (.tup [v1, v2]) ∧ R H v1 x.1 ∧ R H v2 x.2 := by
  have h' : Rep H v (.tuple [_, _]) := h
  cases h' with
  | tup ha hs =>
    cases hs with
    | cons h1 hs =>
      cases hs with
      | cons h2 hs =>
        cases hs
        exact ⟨_, _, _, rfl, ha, h1, h2⟩
theorem R.t3 {x : T3 a b c} {v1 v2 v3 : V} (ha : H p = some (.tup [v1, v2, v3])) (h1 : R H v1 x.a) (h2 : R H v2 x.b) (h3 : R H v3 x.c) : R H (.ref p) x := Rep.tup ha (.cons h1 (.cons h2 (.cons h3 .nil)))
theorem R.t3_ {x : T3 a b c} (h : R H v x) : ∃ p v1 v2 v3, v = .ref p ∧ H p = some (.tup [v1, v2, v3]) ∧ R H v1 x.a ∧ R H v2 x.b ∧ R H v3 x.c := by
  have h' : Rep H v (.tuple [_, _, _]) := h
  cases h' with
  | tup ha hs =>
    cases hs with
    | cons h1 hs =>
      cases hs with
      | cons h2 hs =>
        cases hs with
        | cons h3 hs =>
          cases hs
          exact ⟨_, _, _, _, rfl, ha, h1, h2, h3⟩
theorem R.t4 {x : T4 a b c d} {v1 v2 v3 v4 : V} (ha : H p = some (.tup [v1, v2, v3, v4])) (h1 : R H v1 x.a) (h2 : R H v2 x.b) (h3 : R H v3 x.c) (h4 : R H v4 x.d) : R H (.ref p) x :=
  Rep.tup ha (.cons h1 (.cons h2 (.cons h3 (.cons h4 .nil))))
theorem R.t4_ {x : T4 a b c d} (h : R H v x) : ∃ p v1 v2 v3 v4, v = .ref p ∧ H p = some (.tup [v1, v2, v3, v4]) ∧ R H v1 x.a ∧ R H v2 x.b ∧ R H v3 x.c ∧ R H v4 x.d := by
  have h' : Rep H v (.tuple [_, _, _, _]) := h
  cases h' with
  | tup ha hs =>
    cases hs with
    | cons h1 hs =>
      cases hs with
      | cons h2 hs =>
        cases hs with
        | cons h3 hs =>
          cases hs with
          | cons h4 hs =>
            cases hs
            exact ⟨_, _, _, _, _, rfl, ha, h1, h2, h3, h4⟩
theorem RL.nil : RL H [] ([] : List a) := RepA.nil
theorem RL.cons {x : a} {xs : List a} (h : R H v x) (hs : RL H vs xs) : RL H (v :: vs) (x :: xs) := RepA.cons h hs
theorem RL.cons_ {x : a} {xs : List a} (h : RL H vs (x :: xs)) : ∃ w ws, vs = w :: ws ∧ R H w x ∧ RL H ws xs := by
  have h' : RepA H vs (Py.toD x :: xs.map Py.toD) := h
  cases h' with
  | cons h1 h2 => exact ⟨_, _, rfl, h1, h2⟩
theorem RL.nil_ (h : RL H vs ([] : List a)) : vs = [] := by
  have h' : RepA H vs [] := h
  cases h'
  rfl
theorem RL.len : ∀ {vs : List V} {xs : List a}, RL H vs xs → vs.length = xs.length
  | _, [], h => by rw [RL.nil_ h]; rfl
  | _, x :: xs, h => by
    obtain ⟨w, ws, rfl, _, h2⟩ := RL.cons_ h
    rw [List.length_cons, List.length_cons, RL.len h2]
theorem RL.app : ∀ {vs ws : List V} {xs ys : List a}, RL H vs xs → RL H ws ys → RL H (vs ++ ws) (xs ++ ys)
  | _, _, [], _, h, k => by rw [RL.nil_ h]; exact k
  | _, _, x :: xs, _, h, k => by
    obtain ⟨w, ws', rfl, h1, h2⟩ := RL.cons_ h
    exact RL.cons h1 (RL.app h2 k)
theorem RL.snoc {x : a} {xs : List a} (h : RL H vs xs) (k : R H v x) : RL H (vs ++ [v]) (xs ++ [x]) := RL.app h (RL.cons k RL.nil)
theorem RL.get : ∀ {vs : List V} {xs : List a}, RL H vs xs → ∀ {i : Nat} {x : a}, xs[i]? = some x → ∃ w, vs[i]? = some w ∧ R H w x
  | _, [], _, i, x, e => by simp at e
  | _, y :: ys, h, i, x, e => by
    obtain ⟨w, ws, rfl, h1, h2⟩ := RL.cons_ h
    cases i with
    | zero =>
      cases (Option.some.inj e : y = x)
      exact ⟨w, rfl, h1⟩
    | succ i => exact RL.get h2 (i := i) (by simpa using e)
theorem RL.got : ∀ {vs : List V} {xs : List a}, RL H vs xs → ∀ {i : Nat} {w : V}, vs[i]? = some w → ∃ x, xs[i]? = some x ∧ R H w x
  | _, [], h, i, w, e => by rw [RL.nil_ h] at e; simp at e
  | _, y :: ys, h, i, w, e => by
    obtain ⟨w', ws, rfl, h1, h2⟩ := RL.cons_ h
    cases i with
    | zero =>
      cases (Option.some.inj e : w' = w)
      exact ⟨y, rfl, h1⟩
    | succ i => exact RL.got h2 (i := i) (by simpa using e)
theorem RL.atI {xs : List a} (h : RL H vs xs) {i : Int} {x : a} (e : L2.atI xs i = some x) : ∃ w, L2.atI vs i = some w ∧ R H w x := by
  unfold L2.atI at e ⊢
  rw [h.len]
  cases q : ixN xs.length i with
  | none => rw [q] at e; cases e
  | some j =>
    rw [q] at e
    exact h.get e
theorem RL.take : ∀ {vs : List V} {xs : List a} (n : Nat), RL H vs xs → RL H (vs.take n) (xs.take n)
  | _, _, 0, _ => RL.nil
  | _, [], n + 1, h => by rw [RL.nil_ h]; exact RL.nil
  | _, x :: xs, n + 1, h => by
    obtain ⟨w, ws, rfl, h1, h2⟩ := RL.cons_ h
    exact RL.cons h1 (RL.take n h2)
theorem RL.drop : ∀ {vs : List V} {xs : List a} (n : Nat), RL H vs xs → RL H (vs.drop n) (xs.drop n)
  | _, _, 0, h => h
  | _, [], n + 1, h => by rw [RL.nil_ h]; exact RL.nil
  | _, x :: xs, n + 1, h => by
    obtain ⟨w, ws, rfl, h1, h2⟩ := RL.cons_ h
    exact RL.drop n h2
theorem RL.set : ∀ {vs : List V} {xs : List a} (n : Nat) {w : V} {y : a}, RL H vs xs → R H w y → RL H (vs.set n w) (xs.set n y)
  | _, [], n, _, _, h, _ => by rw [RL.nil_ h]; exact RL.nil
  | _, x :: xs, 0, _, _, h, k => by
    obtain ⟨w, ws, rfl, h1, h2⟩ := RL.cons_ h
    exact RL.cons k h2
  | _, x :: xs, n + 1, _, _, h, k => by
    obtain ⟨w, ws, rfl, h1, h2⟩ := RL.cons_ h
    exact RL.cons h1 (RL.set n h2 k)
theorem RL.erase : ∀ {vs : List V} {xs : List a} (n : Nat), RL H vs xs → RL H (vs.eraseIdx n) (xs.eraseIdx n)
  | _, [], n, h => by rw [RL.nil_ h]; exact RL.nil
  | _, x :: xs, 0, h => by
    obtain ⟨w, ws, rfl, h1, h2⟩ := RL.cons_ h
    exact h2
  | _, x :: xs, n + 1, h => by
    obtain ⟨w, ws, rfl, h1, h2⟩ := RL.cons_ h
    exact RL.cons h1 (RL.erase n h2)
theorem RL.dropLast : ∀ {vs : List V} {xs : List a}, RL H vs xs → RL H vs.dropLast xs.dropLast
  | _, [], h => by rw [RL.nil_ h]; exact RL.nil
  | _, x :: xs, h => by
    obtain ⟨w, ws, rfl, h1, h2⟩ := RL.cons_ h
    cases xs with
    | nil => rw [RL.nil_ h2]; exact RL.nil
    | cons y ys =>
      obtain ⟨w2, ws2, rfl, _, _⟩ := RL.cons_ h2
      exact RL.cons h1 (RL.dropLast h2)
theorem RL.rev : ∀ {vs : List V} {xs : List a}, RL H vs xs → RL H vs.reverse xs.reverse
  | _, [], h => by rw [RL.nil_ h]; exact RL.nil
  | _, x :: xs, h => by
    obtain ⟨w, ws, rfl, h1, h2⟩ := RL.cons_ h
    rw [List.reverse_cons, List.reverse_cons]
    exact RL.snoc (RL.rev h2) h1
theorem RL.ints : ∀ {vs : List V} {xs : List Int}, RL H vs xs → vs = xs.map V.int
  | _, [], h => RL.nil_ h
  | _, x :: xs, h => by
    obtain ⟨w, ws, rfl, h1, h2⟩ := RL.cons_ h
    rw [R.int_ h1, RL.ints h2]
    rfl
theorem RL.of_ints : ∀ {xs : List Int}, RL H (xs.map V.int) xs
  | [] => RL.nil
  | x :: xs => RL.cons R.int RL.of_ints
theorem RL.bls : ∀ {vs : List V} {xs : List Bool}, RL H vs xs → vs = xs.map V.bl
  | _, [], h => RL.nil_ h
  | _, x :: xs, h => by
    obtain ⟨w, ws, rfl, h1, h2⟩ := RL.cons_ h
    rw [R.bl_ h1, RL.bls h2]
    rfl
theorem RL.strs : ∀ {vs : List V} {xs : List Str}, RL H vs xs → vs = xs.map V.str
  | _, [], h => RL.nil_ h
  | _, x :: xs, h => by
    obtain ⟨w, ws, rfl, h1, h2⟩ := RL.cons_ h
    rw [R.str_ h1, RL.strs h2]
    rfl
theorem RL.of_strs : ∀ {xs : List Str}, RL H (xs.map V.str) xs
  | [] => RL.nil
  | x :: xs => RL.cons R.str RL.of_strs
theorem RL.cut {xs : List a} (h : RL H vs xs) (lo hi : Option Int) : RL H (cutV vs lo hi) ((xs.drop (HT.sIx xs.length 0 lo)).take (HT.sIx xs.length xs.length hi - HT.sIx xs.length 0 lo)) := by
  unfold cutV
  rw [h.len]
  exact (h.drop _).take _
end

/-! ### owned cells: F is what is read alone, cs are the cells that the code may change -/
/-- what is known of the heap behind a def, by the heap at its entry; the cells at as may have changed -/
structure Gr (as : List Addr) (F H F' H' : Hp) : Prop where
  f : Same F F'
  s : Same F' H'
  k : ∀ b o, b ∉ as → H b = some o → H' b = some o
  t : ∀ b, H b ≠ none → H' b ≠ none
  n : ∀ b, H b ≠ none → F' b = F b ∨ ∃ xs, H b = some (.tup xs)
  u : ∀ b xs, H' b = some (.tup xs) → H b = none ∨ H b = some (.tup xs)
/-- what may be a cell -/
def noTup : HO → Bool
  | .tup _ => false
  | _ => true
structure Kp (as : List Addr) (H H' : Hp) : Prop where
  k : ∀ b o, b ∉ as → H b = some o → H' b = some o
  t : ∀ b, H b ≠ none → H' b ≠ none
/-- the entry of a def -/
structure Ent where
  as : List Addr
  F : Hp
  H : Hp
structure Ow (Z : Ent) (F : Hp) (cs : List (Addr × HO)) (H : Hp) : Prop where
  g : Gr Z.as Z.F Z.H F H
  cf : ∀ c ∈ cs, F c.1 = none
  ch : ∀ c ∈ cs, H c.1 = some c.2
  nd : (cs.map (·.1)).Nodup
  ca : ∀ c ∈ cs, c.1 ∈ Z.as ∨ Z.H c.1 = none
  nt : ∀ c ∈ cs, noTup c.2 = true
/-- what a def asks of its cells -/
structure Pre (F : Hp) (cs : List (Addr × HO)) (H : Hp) : Prop where
  s : Same F H
  cf : ∀ c ∈ cs, F c.1 = none
  ch : ∀ c ∈ cs, H c.1 = some c.2
  nd : (cs.map (·.1)).Nodup
  nt : ∀ c ∈ cs, noTup c.2 = true
theorem Same.new {H : Hp} {p : Addr} {o : HO} (h : H p = none) : Same H (upd H p o) := fun b u e => by
  rw [upd_ne (ne_of_none e h)]
  exact e
theorem Same.upd2 {F H : Hp} {p : Addr} {o : HO} (s : Same F H) : Same (upd F p o) (upd H p o) := fun b u e => by
  by_cases hb : b = p
  · subst hb
    rw [upd_same] at e ⊢
    exact e
  · rw [upd_ne hb] at e ⊢
    exact s b u e
theorem Same.no {F H : Hp} {p : Addr} (s : Same F H) (h : H p = none) : F p = none := Same.free s h
section
variable {Z : Ent} {F F' H H' : Hp} {cs : List (Addr × HO)} {p a : Addr} {o o' : HO}
theorem Pre.start (P : Pre F cs H) : Ow ⟨cs.map (·.1), F, H⟩ F cs H where
  g := ⟨Same.refl _, P.s, fun _ _ _ e => e, fun _ e => e, fun _ _ => .inl rfl, fun _ _ e => .inr e⟩
  cf := P.cf
  ch := P.ch
  nd := P.nd
  ca := fun c hc => .inl (List.mem_map.mpr ⟨c, hc, rfl⟩)
  nt := P.nt
theorem Ow.s (O : Ow Z F cs H) : Same F H := O.g.s
theorem Ow.pre (O : Ow Z F cs H) : Pre F cs H := ⟨O.g.s, O.cf, O.ch, O.nd, O.nt⟩
theorem Ow.pre0 (O : Ow Z F cs H) : Pre F [] H := ⟨O.g.s, (fun _ h => nomatch h), (fun _ h => nomatch h), List.nodup_nil, fun _ h => nomatch h⟩
theorem Ow.pre1 (O : Ow Z F cs H) (i : Nat) (e : cs[i]? = some (a, o)) : Pre F [(a, o)] H := by
  have m := List.mem_of_getElem? e
  refine ⟨O.g.s, fun c hc => ?_, fun c hc => ?_, by simp, fun c hc => ?_⟩
  · rw [List.mem_singleton.mp hc]; exact O.cf _ m
  · rw [List.mem_singleton.mp hc]; exact O.ch _ m
  · rw [List.mem_singleton.mp hc]; exact O.nt _ m
theorem Ow.at (O : Ow Z F cs H) (i : Nat) (e : cs[i]? = some (a, o)) : H a = some o := O.ch _ (List.mem_of_getElem? e)
theorem Ow.no (O : Ow Z F cs H) (h : H p = none) : F p = none := Same.no O.s h
theorem Gr.new (g : Gr Z.as Z.F Z.H F H) (h : H p = none) : Gr Z.as Z.F Z.H F (upd H p o) where
  f := g.f
  s := g.s.trans (Same.new h)
  k := fun b u hb e => Same.new h b u (g.k b u hb e)
  t := fun b e z => by
    by_cases hb : b = p
    · subst hb; exact g.t _ e h
    · rw [upd_ne hb] at z; exact g.t b e z
  n := g.n
  u := fun b xs e => by
    by_cases hb : b = p
    · subst hb
      cases q : Z.H b with
      | none => exact .inl rfl
      | some u => exact absurd h (g.t b (by rw [q]; simp))
    · rw [upd_ne hb] at e; exact g.u b xs e
/-- a new cell -/
theorem Ow.new (O : Ow Z F cs H) (h : H p = none) (hn : noTup o = true := by rfl) : Ow Z F ((p, o) :: cs) (upd H p o) where
  g := O.g.new h
  cf := fun c hc => by
    rcases List.mem_cons.mp hc with rfl | hc
    · exact O.no h
    · exact O.cf c hc
  ch := fun c hc => by
    rcases List.mem_cons.mp hc with rfl | hc
    · exact upd_same
    · rw [upd_ne (ne_of_none (O.ch c hc) h)]; exact O.ch c hc
  nd := by
    rw [List.map_cons, List.nodup_cons]
    refine ⟨fun hm => ?_, O.nd⟩
    obtain ⟨c, hc, e⟩ := List.mem_map.mp hm
    have z := O.ch c hc
    rw [e] at z
    rw [z] at h
    cases h
  ca := fun c hc => by
    rcases List.mem_cons.mp hc with rfl | hc
    · refine .inr ?_
      cases q : Z.H p with
      | none => rfl
      | some u => exact absurd h (O.g.t p (by rw [q]; simp))
    · exact O.ca c hc
  nt := fun c hc => by
    rcases List.mem_cons.mp hc with rfl | hc
    · exact hn
    · exact O.nt c hc
/-- a new thing that is read alone -/
theorem Ow.put (O : Ow Z F cs H) (h : H p = none) : Ow Z (upd F p o) cs (upd H p o) where
  g := {
    f := O.g.f.trans (Same.new (O.no h))
    s := Same.upd2 O.g.s
    k := (O.g.new h).k
    t := (O.g.new h).t
    n := fun b e => by
      have hb : b ≠ p := fun z => by subst z; exact O.g.t _ e h
      rw [upd_ne hb]
      exact O.g.n b e
    u := (O.g.new h).u }
  cf := fun c hc => by rw [upd_ne (ne_of_none (O.ch c hc) h)]; exact O.cf c hc
  ch := fun c hc => by rw [upd_ne (ne_of_none (O.ch c hc) h)]; exact O.ch c hc
  nd := O.nd
  ca := O.ca
  nt := O.nt
theorem map_set_fst {i : Nat} (e : cs[i]? = some (a, o)) : (cs.set i (a, o')).map (·.1) = cs.map (·.1) := by
  rw [List.map_set]
  obtain ⟨h, e'⟩ := List.getElem?_eq_some_iff.mp e
  refine List.ext_getElem? fun j => ?_
  by_cases hj : i = j
  · subst hj
    rw [List.getElem?_set_self (by simpa using h), List.getElem?_map, e]
    rfl
  · rw [List.getElem?_set_ne hj]
theorem nd_other {i : Nat} (nd : (cs.map (·.1)).Nodup) (e : cs[i]? = some (a, o)) {c : Addr × HO} (hc : c ∈ cs.set i (a, o')) : c = (a, o') ∨ (c ∈ cs ∧ c.1 ≠ a) := by
  obtain ⟨j, hj⟩ := List.mem_iff_getElem?.mp hc
  by_cases hij : i = j
  · subst hij
    obtain ⟨h, _⟩ := List.getElem?_eq_some_iff.mp e
    rw [List.getElem?_set_self h] at hj
    exact .inl (Option.some.inj hj).symm
  · rw [List.getElem?_set_ne hij] at hj
    refine .inr ⟨List.mem_of_getElem? hj, fun z => hij ?_⟩
    have h1 : (cs.map (·.1))[i]? = some a := by rw [List.getElem?_map, e]; rfl
    have h2 : (cs.map (·.1))[j]? = some a := by rw [List.getElem?_map, hj, ← z]; rfl
    exact nd_ix nd h1 h2
/-- a cell is changed -/
theorem Ow.set (O : Ow Z F cs H) (i : Nat) (o' : HO) (e : cs[i]? = some (a, o)) (hn : noTup o' = true := by rfl) : Ow Z F (cs.set i (a, o')) (upd H a o') := by
  have m := List.mem_of_getElem? e
  have ha := O.ca _ m
  refine ⟨⟨O.g.f, fun b u q => ?_, fun b u hb q => ?_, fun b q z => ?_, O.g.n, fun b xs q => ?_⟩, fun c hc => ?_, fun c hc => ?_, ?_, fun c hc => ?_, fun c hc => ?_⟩
  · have hb : b ≠ a := fun z => by subst z; rw [O.cf _ m] at q; cases q
    rw [upd_ne hb]
    exact O.g.s b u q
  · have hba : b ≠ a := fun z => by
      subst z
      rcases ha with ha | ha
      · exact hb ha
      · have q' : Z.H b = some u := q
        have ha' : Z.H b = none := ha
        rw [ha'] at q'; cases q'
    rw [upd_ne hba]
    exact O.g.k b u hb q
  · by_cases hb : b = a
    · subst hb; rw [upd_same] at z; cases z
    · rw [upd_ne hb] at z; exact O.g.t b q z
  · by_cases hb : b = a
    · subst hb
      rw [upd_same] at q
      rw [Option.some.inj q] at hn
      cases hn
    · rw [upd_ne hb] at q; exact O.g.u b xs q
  · rcases nd_other O.nd e hc with rfl | ⟨h1, _⟩
    · exact O.cf (a, o) m
    · exact O.cf c h1
  · rcases nd_other O.nd e hc with rfl | ⟨h1, h2⟩
    · exact upd_same
    · rw [upd_ne h2]; exact O.ch c h1
  · rw [map_set_fst e]; exact O.nd
  · rcases nd_other O.nd e hc with rfl | ⟨h1, _⟩
    · exact ha
    · exact O.ca c h1
  · rcases nd_other O.nd e hc with rfl | ⟨h1, _⟩
    · exact hn
    · exact O.nt c h1
theorem mem_erase {i : Nat} {c : Addr × HO} (h : c ∈ cs.eraseIdx i) : c ∈ cs := List.mem_of_mem_eraseIdx h
theorem nd_erase {i : Nat} (h : (cs.map (·.1)).Nodup) : ((cs.eraseIdx i).map (·.1)).Nodup := by
  exact h.sublist ((List.eraseIdx_sublist cs i).map (fun x => x.1))
/-- a cell that nobody changes any more (it was not there at the entry) -/
theorem Ow.frz (O : Ow Z F cs H) (i : Nat) (e : cs[i]? = some (a, o)) (hz : Z.H a = none) : Ow Z (upd F a o) (cs.eraseIdx i) H := by
  have m := List.mem_of_getElem? e
  have h1 : ∀ c ∈ cs.eraseIdx i, c.1 ≠ a := fun c hc z => by
    have nd := O.nd
    obtain ⟨hi, e'⟩ := List.getElem?_eq_some_iff.mp e
    obtain ⟨j, hj⟩ := List.mem_iff_getElem?.mp hc
    rw [List.getElem?_eraseIdx] at hj
    have h1 : (cs.map (·.1))[i]? = some a := by rw [List.getElem?_map, e]; rfl
    by_cases hji : j < i
    · rw [if_pos hji] at hj
      have h2 : (cs.map (·.1))[j]? = some a := by rw [List.getElem?_map, hj, ← z]; rfl
      have := nd_ix nd h1 h2
      omega
    · rw [if_neg hji] at hj
      have h2 : (cs.map (·.1))[j + 1]? = some a := by rw [List.getElem?_map, hj, ← z]; rfl
      have := nd_ix nd h1 h2
      omega
  refine ⟨⟨O.g.f.trans (Same.new (O.cf _ m)), fun b u q => ?_, O.g.k, O.g.t, fun b q => ?_, O.g.u⟩, fun c hc => ?_, fun c hc => O.ch c (mem_erase hc), nd_erase O.nd, fun c hc => O.ca c (mem_erase hc), fun c hc => O.nt c (mem_erase hc)⟩
  · by_cases hb : b = a
    · subst hb; rw [upd_same] at q; rw [← q]; exact O.ch _ m
    · rw [upd_ne hb] at q; exact O.g.s b u q
  · have hb : b ≠ a := fun z => by subst z; exact q hz
    rw [upd_ne hb]
    exact O.g.n b q
  · rw [upd_ne (h1 c hc)]; exact O.cf c (mem_erase hc)
theorem Ow.drop (O : Ow Z F cs H) (i : Nat) : Ow Z F (cs.eraseIdx i) H := ⟨O.g, fun c hc => O.cf c (mem_erase hc), fun c hc => O.ch c (mem_erase hc), nd_erase O.nd, fun c hc => O.ca c (mem_erase hc), fun c hc => O.nt c (mem_erase hc)⟩
theorem Ow.frzS (O : Ow Z F cs H) (i : Nat) (e : cs[i]? = some (a, o)) : Same F (upd F a o) := Same.new (O.cf _ (List.mem_of_getElem? e))
theorem Ow.putS (O : Ow Z F cs H) (h : H p = none) : Same F (upd F p o) := Same.new (O.no h)
theorem Gr.then {as : List Addr} (g0 : Gr Z.as Z.F Z.H F H) (g : Gr as F H F' H') (ha : ∀ b ∈ as, b ∈ Z.as ∨ Z.H b = none) : Gr Z.as Z.F Z.H F' H' where
  f := g0.f.trans g.f
  s := g.s
  k := fun b u hb e => by
    refine g.k b u (fun z => ?_) (g0.k b u hb e)
    rcases ha b z with h | h
    · exact hb h
    · rw [h] at e; cases e
  t := fun b e => g.t b (g0.t b e)
  n := fun b e => by
    rcases g0.n b e with h0 | h0
    · rcases g.n b (g0.t b e) with h1 | ⟨xs, hx⟩
      · exact .inl (h1.trans h0)
      · rcases g0.u b xs hx with z | z
        · exact absurd z e
        · exact .inr ⟨xs, z⟩
    · exact .inr h0
  u := fun b xs e => by
    rcases g.u b xs e with z | z
    · refine .inl ?_
      cases q : Z.H b with
      | none => rfl
      | some u => exact absurd z (g0.t b (by rw [q]; simp))
    · exact g0.u b xs z
theorem Gr.none {as : List Addr} (g : Gr as F H F' H') {c : Addr × HO} (h : H c.1 = some c.2) (hn : noTup c.2 = true) (hf : F c.1 = Option.none) : F' c.1 = Option.none := by
  rcases g.n c.1 (by rw [h]; simp) with z | ⟨xs, z⟩
  · exact z.trans hf
  · rw [h] at z
    rw [Option.some.inj z] at hn
    cases hn
/-- behind a call that changes none of our cells -/
theorem Ow.call0 (O : Ow Z F cs H) (g : Gr [] F H F' H') : Ow Z F' cs H' where
  g := O.g.then g (fun _ h => nomatch h)
  cf := fun c hc => g.none (O.ch c hc) (O.nt c hc) (O.cf c hc)
  ch := fun c hc => g.k _ _ (fun h => nomatch h) (O.ch c hc)
  nd := O.nd
  ca := O.ca
  nt := O.nt
/-- .. one -/
theorem Ow.call1 (O : Ow Z F cs H) (g : Gr [a] F H F' H') (i : Nat) (e : cs[i]? = some (a, o)) (h' : H' a = some o') (hn : noTup o' = true := by rfl) : Ow Z F' (cs.set i (a, o')) H' := by
  have m := List.mem_of_getElem? e
  refine ⟨O.g.then g (fun b hb => by rw [List.mem_singleton.mp hb]; exact O.ca _ m), fun c hc => ?_, fun c hc => ?_, by rw [map_set_fst e]; exact O.nd, fun c hc => ?_, fun c hc => ?_⟩
  · rcases nd_other O.nd e hc with rfl | ⟨h1, _⟩
    · exact g.none (c := (a, o)) (O.ch (a, o) m) (O.nt (a, o) m) (O.cf (a, o) m)
    · exact g.none (O.ch c h1) (O.nt c h1) (O.cf c h1)
  · rcases nd_other O.nd e hc with rfl | ⟨h1, h2⟩
    · exact h'
    · exact g.k _ _ (fun z => h2 (List.mem_singleton.mp z)) (O.ch c h1)
  · rcases nd_other O.nd e hc with rfl | ⟨h1, _⟩
    · exact O.ca (a, o) m
    · exact O.ca c h1
  · rcases nd_other O.nd e hc with rfl | ⟨h1, _⟩
    · exact hn
    · exact O.nt c h1
/-- a cell that a call made -/
theorem Ow.add {H0 : Hp} {F0 : Hp} (O : Ow Z F cs H) (O0 : Ow Z F0 cs' H0) (hk : ∀ c ∈ cs, c.1 ∈ cs'.map (·.1)) (hn : H0 p = none) (hf : F p = none) (h : H p = some o) (ht : noTup o = true := by rfl) : Ow Z F ((p, o) :: cs) H where
  g := O.g
  cf := fun c hc => by
    rcases List.mem_cons.mp hc with rfl | hc
    · exact hf
    · exact O.cf c hc
  ch := fun c hc => by
    rcases List.mem_cons.mp hc with rfl | hc
    · exact h
    · exact O.ch c hc
  nd := by
    rw [List.map_cons, List.nodup_cons]
    refine ⟨fun hm => ?_, O.nd⟩
    obtain ⟨c, hc, e⟩ := List.mem_map.mp hm
    obtain ⟨c', hc', e'⟩ := List.mem_map.mp (hk c hc)
    have z := O0.ch c' hc'
    rw [e', e] at z
    rw [z] at hn
    cases hn
  ca := fun c hc => by
    rcases List.mem_cons.mp hc with rfl | hc
    · refine .inr ?_
      cases q : Z.H p with
      | none => rfl
      | some u => exact absurd hn (O0.g.t p (by rw [q]; simp))
    · exact O.ca c hc
  nt := fun c hc => by
    rcases List.mem_cons.mp hc with rfl | hc
    · exact ht
    · exact O.nt c hc
theorem Ow.kp (O : Ow Z F cs H) : Kp Z.as Z.H H := ⟨O.g.k, O.g.t⟩
theorem Kp.of {as : List Addr} {H0 H1 : Hp} (g : Gr as F H0 F' H1) : Kp as H0 H1 := ⟨g.k, g.t⟩
/-- an error of a call leaves this def -/
theorem Ow.kpCall {as : List Addr} {H1 : Hp} (O : Ow Z F cs H) (k : Kp as H H1) (ha : ∀ b ∈ as, ∃ o, (b, o) ∈ cs) : Kp Z.as Z.H H1 where
  k := fun b u hb e => by
    refine k.k b u (fun z => ?_) (O.g.k b u hb e)
    obtain ⟨o, hc⟩ := ha b z
    rcases O.ca _ hc with h | h
    · exact hb h
    · have h' : Z.H b = none := h
      rw [h'] at e; cases e
  t := fun b e => k.t b (O.g.t b e)
theorem Ow.kp0 {H1 : Hp} (O : Ow Z F cs H) (k : Kp [] H H1) : Kp Z.as Z.H H1 := O.kpCall k fun _ h => nomatch h
theorem Ow.kp1 {H1 : Hp} (O : Ow Z F cs H) (k : Kp [a] H H1) (i : Nat) (e : cs[i]? = some (a, o)) : Kp Z.as Z.H H1 := O.kpCall k fun b hb => by
  rw [List.mem_singleton.mp hb]
  exact ⟨o, List.mem_of_getElem? e⟩
end
end PG

set_option Elab.async false
set_option linter.all false
set_option maxRecDepth 100000
set_option maxHeartbeats 4000000
namespace PG
open PySem L2
open PySem.W (T3 T4 Datum DatumOrd Holds HoldAll EachIs)
/-! ### rules over typed data -/
section
variable {X : Cx} {pins : List (Addr × Obj)} {σ : St} {H : Hp} {s : Shared} {v : V} {u : Value} {vs : List V} {us : List Value}
theorem R.holds {a : Type} [Py a] [DecidableEq a] [Datum a] [IsD a] {x : a} (I : Inv X pins σ H s) (h : R H v x) (r : RelV v u) : Holds s.heap u x := by
  obtain ⟨as, q⟩ := Dp.reads I _ _ _ (Rep.dp _ _ h) r
  rw [IsD.eq] at q
  exact ⟨as, q⟩
theorem RL.holds {a : Type} [Py a] [DecidableEq a] [Datum a] [IsD a] {xs : List a} (I : Inv X pins σ H s) (h : RL H vs xs) (r : Vals vs us) : HoldAll s.heap us xs := by
  obtain ⟨as, q⟩ := Dp.readsAll I _ _ _ (RepA.dp _ _ h) r
  rw [map_toD] at q
  exact ⟨as, q⟩
end
section
variable {X : Cx} (a : Type) [Py a] [DecidableEq a] [Datum a] [IsD a]
def rEqT : R2 := fun x y H Q => ∃ p q : a, R H x p ∧ R H y q ∧ Q (.bl (decide (p = q))) H
def rNeT : R2 := fun x y H Q => ∃ p q : a, R H x p ∧ R H y q ∧ Q (.bl (decide (p ≠ q))) H
theorem op_eqT (hu : X.A.units + 64 < cLine) (hd : Datum.depth a ≤ 64 := by decide) : OpR X (compareOp .Eq) (rEqT a) := by
  intro pins s σ H x y v u Q I rx ry h
  obtain ⟨p, q, hp, hq, k⟩ := h
  exact PySem.W.eq_datum (hp.holds I rx) (hq.holds I ry) (by omega) ⟨.bl _, H, I, rfl, k⟩
theorem op_neT (hu : X.A.units + 64 < cLine) (hd : Datum.depth a ≤ 64 := by decide) : OpR X (compareOp .NotEq) (rNeT a) := by
  intro pins s σ H x y v u Q I rx ry h
  obtain ⟨p, q, hp, hq, k⟩ := h
  exact PySem.W.ne_datum (hp.holds I rx) (hq.holds I ry) (by omega) ⟨.bl _, H, I, rfl, k⟩
def rInT (neg : Bool) : R2 := fun x y H Q => ∃ (p : a) (l : Addr) (vs : List V) (ys : List a), R H x p ∧ y = .ref l ∧ (H l = some (.lst vs) ∨ H l = some (.tup vs)) ∧ RL H vs ys ∧ Q (.bl (if neg then decide (p ∉ ys) else decide (p ∈ ys))) H
end
section
variable {X : Cx} (a : Type) [Py a] [DecidableEq a] [Datum a] [IsD a]
theorem op_inT (hu : X.A.units + 64 < cLine) (hd : Datum.depth a ≤ 60 := by decide) : OpR X (compareOp .In) (rInT a false) := by
  intro pins s σ H x y v u Q I rx ry h
  obtain ⟨p, l, vs, ys, hp, rfl, hl, hy, k⟩ := h
  cases ry
  rcases hl with hl | hl
  · obtain ⟨its, rv, hL, _⟩ := I.list (SqL.of (K := X.K) hl)
    exact PySem.W.in_list_datum hL.isList (by simpa using hy.holds I rv) (hp.holds I rx) (by omega) ⟨.bl _, H, I, rfl, k⟩
  · obtain ⟨its, rv, hL, _⟩ := I.tuple (SqT.of (K := X.K) hl)
    exact PySem.W.in_tuple_datum (show s.heap.IsTuple l its.toArray from hL) (by simpa using hy.holds I rv) (hp.holds I rx) (by omega) ⟨.bl _, H, I, rfl, k⟩
theorem op_ninT (hu : X.A.units + 64 < cLine) (hd : Datum.depth a ≤ 60 := by decide) : OpR X (compareOp .NotIn) (rInT a true) := by
  intro pins s σ H x y v u Q I rx ry h
  obtain ⟨p, l, vs, ys, hp, rfl, hl, hy, k⟩ := h
  cases ry
  rcases hl with hl | hl
  · obtain ⟨its, rv, hL, _⟩ := I.list (SqL.of (K := X.K) hl)
    exact PySem.W.notIn_list_datum hL.isList (by simpa using hy.holds I rv) (hp.holds I rx) (by omega) ⟨.bl _, H, I, rfl, k⟩
  · obtain ⟨its, rv, hL, _⟩ := I.tuple (SqT.of (K := X.K) hl)
    exact PySem.W.notIn_tuple_datum (show s.heap.IsTuple l its.toArray from hL) (by simpa using hy.holds I rv) (hp.holds I rx) (by omega) ⟨.bl _, H, I, rfl, k⟩
end

/-! ### sorted -/
/-- how data may be sorted: all are tuples with an item, or none is a tuple or None -/
class SortB (a : Type) [DecidableEq a] [Datum a] : Prop where
  ok : (∀ x : a, ∃ d r, Datum.toD x = .tuple (d :: r)) ∨ ∀ x : a, Datum.toD x ≠ .none ∧ ∀ ds, Datum.toD x ≠ .tuple ds
instance : SortB Int := ⟨.inr fun x => ⟨(fun e => nomatch (show PyData.int x = .none from e)), fun ds e => nomatch (show PyData.int x = .tuple ds from e)⟩⟩
instance : SortB Str := ⟨.inr fun x => ⟨(fun e => nomatch (show PyData.str x = .none from e)), fun ds e => nomatch (show PyData.str x = .tuple ds from e)⟩⟩
section
variable {a b c : Type} [DecidableEq a] [Datum a] [DecidableEq b] [Datum b] [DecidableEq c] [Datum c]
instance : SortB (List a) := ⟨.inr fun x => ⟨(fun e => nomatch (show PyData.list _ = .none from e)), fun ds e => nomatch (show PyData.list _ = .tuple ds from e)⟩⟩
instance : SortB (a × b) := ⟨.inl fun x => ⟨_, _, rfl⟩⟩
instance : SortB (T3 a b c) := ⟨.inl fun x => ⟨_, _, rfl⟩⟩
end
/-- Python's order -/
def leT {a : Type} [DecidableEq a] [DatumOrd a] (x y : a) : Bool := !DatumOrd.lt y x
def sortT {a : Type} [DecidableEq a] [DatumOrd a] (xs : List a) : List a := xs.mergeSort leT
theorem dataLe_T {a β : Type} [DecidableEq a] [DatumOrd a] (f : β → a) : PySem.W.dataLe false (fun b => Datum.toD (f b)) = fun x y => leT (f x) (f y) := by
  funext x y
  rw [PySem.W.dataLe_eq]
  show (!PySem.W.dataLt (Datum.toD (f y)) (Datum.toD (f x))) = _
  rw [DatumOrd.lt_eq]
  rfl
section
variable {a : Type} [Py a] [DecidableEq a] [DatumOrd a] [IsD a] {H : Hp}
theorem each_pairs : ∀ {vs : List V} {xs : List a} {us : List Value}, RL H vs xs → Vals vs us → EachIs (fun (u : Value) (p : V × a) => RelV p.1 u ∧ R H p.1 p.2) us (vs.zip xs)
  | _, [], _, h, r => by
    rw [RL.nil_ h] at r ⊢
    cases r
    exact .nil
  | _, x :: xs, _, h, r => by
    obtain ⟨w, ws, rfl, h1, h2⟩ := RL.cons_ h
    cases r with
    | cons r1 r2 => exact .cons ⟨r1, h1⟩ (each_pairs h2 r2)
theorem pairs_vals : ∀ {ps : List (V × a)} {us : List Value}, EachIs (fun (u : Value) (p : V × a) => RelV p.1 u ∧ R H p.1 p.2) us ps → Vals (ps.map (·.1)) us ∧ RL H (ps.map (·.1)) (ps.map (·.2))
  | _, _, .nil => ⟨.nil, RL.nil⟩
  | _, _, .cons ⟨r1, h1⟩ t => ⟨.cons r1 (pairs_vals t).1, RL.cons h1 (pairs_vals t).2⟩
theorem each_imp {β γ : Type} {A B : β → γ → Prop} (f : ∀ x y, A x y → B x y) : ∀ {xs : List β} {ys : List γ}, EachIs A xs ys → EachIs B xs ys
  | _, _, .nil => .nil
  | _, _, .cons h t => .cons (f _ _ h) (each_imp f t)
theorem zip_snd : ∀ {vs : List V} {xs : List a}, vs.length = xs.length → (vs.zip xs).map (·.2) = xs
  | [], [], _ => rfl
  | v :: vs, x :: xs, h => by
    rw [List.zip_cons_cons, List.map_cons, zip_snd (by simpa using h)]
  | [], _ :: _, h => by simp at h
  | _ :: _, [], h => by simp at h
theorem sort_zip {vs : List V} {xs : List a} (h : vs.length = xs.length) : ((vs.zip xs).mergeSort fun p q => leT p.2 q.2).map (·.2) = sortT xs := by
  unfold sortT
  rw [List.map_mergeSort (s := leT) (fun _ _ _ _ => rfl), zip_snd h]
end
section
variable {a : Type} [Py a] [DecidableEq a] [DatumOrd a] [IsD a] {H : Hp}
def sortV (ws : List V) (xs : List a) : List V := ((ws.zip xs).mergeSort fun p q => leT p.2 q.2).map (·.1)
theorem RL.pairs : ∀ {ws : List V} {xs : List a}, RL H ws xs → ∀ p ∈ ws.zip xs, R H p.1 p.2
  | _, [], _, p, hp => by simp at hp
  | _, x :: xs, h, p, hp => by
    obtain ⟨w, ws, rfl, h1, h2⟩ := RL.cons_ h
    rw [List.zip_cons_cons] at hp
    rcases List.mem_cons.mp hp with rfl | hp
    · exact h1
    · exact RL.pairs h2 p hp
theorem RL.of_pairs : ∀ {ps : List (V × a)}, (∀ p ∈ ps, R H p.1 p.2) → RL H (ps.map (·.1)) (ps.map (·.2))
  | [], _ => RL.nil
  | p :: ps, h => RL.cons (h p List.mem_cons_self) (RL.of_pairs fun q hq => h q (List.mem_cons_of_mem _ hq))
theorem RL.sorted {ws : List V} {xs : List a} (h : RL H ws xs) : RL H (sortV ws xs) (sortT xs) := by
  have q : RL H (sortV ws xs) (((ws.zip xs).mergeSort fun p q => leT p.2 q.2).map (·.2)) := RL.of_pairs fun p hp => h.pairs p (List.mem_mergeSort.mp hp)
  rw [sort_zip h.len] at q
  exact q
end
section
variable {X : Cx} (a : Type) [Py a] [DecidableEq a] [DatumOrd a] [IsD a]
/-- sorted(xs) of a list: a new list -/
def rSortedT : List V → Hp → VK → Prop := fun vs H Q => ∃ (l : Addr) (ws : List V) (xs : List a), vs = [.ref l] ∧ H l = some (.lst ws) ∧ RL H ws xs ∧ ∀ (p : Addr), H p = none → Q (.ref p) (upd H p (.lst (sortV ws xs)))
theorem cr_sortedT [SortB a] (hu : X.A.units + 128 < cLine) (hd : Datum.depth a ≤ 100 := by decide) : CallR X (.builtin "sorted") (rSortedT a) := by
  intro pins s σ H vs us Q I r h
  obtain ⟨l, ws, xs, rfl, hl, hx, k⟩ := h
  obtain ⟨its, rv, hL, hz⟩ := I.list (SqL.of (K := X.K) hl)
  rw [Vals.ref1 r]
  have hlen : ws.length = xs.length := hx.len
  have hE := each_pairs hx rv
  refine PySem.W.sorted_data (bs := ws.zip xs) (enc := fun p => Datum.toD p.2) hL.isList hE (each_imp (fun u p hp => hp.2.holds I hp.1) hE) (PySem.W.AllAlike.of fun p q => DatumOrd.alike p.2 q.2) ?_ (by rw [List.length_zip, ← hlen, Nat.min_self]; exact hz) (fun p _ => ?_) fun out ho he => ?_
  · rcases SortB.ok (a := a) with q | q
    · exact PySem.W.Sortable.tuples fun p => q p.2
    · exact PySem.W.Sortable.others fun p => q p.2
  · have := Datum.depth_le p.2
    omega
  · rw [dataLe_T (fun p : V × a => p.2)] at he
    obtain ⟨q1, q2⟩ := pairs_vals he
    obtain ⟨ep, he'⟩ := PyProof.Rows.sortedAll_at s.heap its out.toArray
    refine ⟨.ref _, upd H (s.heap.objs.size + 1) (.lst _), I.laid (t' := s.toks) (fun _ _ => PyProof.Rows.sortedAll_old) (Nat.le_succ _) ⟨?_, out, ep, q1, he'⟩, rfl, k _ (I.hok.fresh (Nat.le_succ _))⟩
    rw [List.length_map, List.length_mergeSort, List.length_zip, ← hlen, Nat.min_self]
    exact hz
end
end PG

set_option Elab.async false
set_option linter.all false
set_option maxRecDepth 100000
set_option maxHeartbeats 4000000
namespace PG
open PySem PySem.Spec PyProof.Rows L2
open PySem.W (T3 T4 Datum DatumOrd Holds HoldAll EachIs)

instance (i j : Int) : Decidable (CMulW i j) := inferInstanceAs (Decidable (_ < _))
instance (i j : Int) : Decidable (CDivW i j) := inferInstanceAs (Decidable (_ ∧ _))
instance (i j : Int) : Decidable (CPow i j) := inferInstanceAs (Decidable (_ ∧ _ ∧ _))
theorem szl : sizeLine = 16777216 := sizeLine_eq
theorem lt_line {n : Nat} (h : n < 16777216) : n < sizeLine := by rw [szl]; exact h
theorem le_line {n : Nat} (h : n < 16777216) : n ≤ sizeLine := Nat.le_of_lt (lt_line h)
theorem len_line {vs : List V} (h : vs.length < 16777216 := by (show _ < 16777216); simp) : vs.length ≤ sizeLine := le_line h
theorem SqLF {K : PySem.W.Frag} {F H : Hp} {p : Addr} {vs : List V} (s : Same F H) (h : F p = some (.lst vs)) : SqL K H p vs := SqL.of (s _ _ h)
theorem SqTF {K : PySem.W.Frag} {F H : Hp} {p : Addr} {vs : List V} (s : Same F H) (h : F p = some (.tup vs)) : SqT K H p vs := SqT.of (s _ _ h)

/-! ### mirrors of what may go wrong -/
def setI {a : Type} (xs : List a) (i : Int) (y : a) : M (List a) := match ixN xs.length i with
  | some j => .ok (xs.set j y)
  | none => bad
def popI {a : Type} (xs : List a) (i : Int) : M (a × List a) := if xs.length < 16777216 then (match ixN xs.length i with
    | some j => (match xs[j]? with
      | some y => .ok (y, xs.eraseIdx j)
      | none => bad)
    | none => bad) else bad
def popL {a : Type} (xs : List a) : M (a × List a) := match xs[xs.length - 1]? with
  | some y => .ok (y, xs.dropLast)
  | none => bad
def appL {a : Type} (xs : List a) (y : a) : M (List a) := if xs.length < 16777216 then .ok (xs ++ [y]) else bad
def rangeL (lo hi : Int) : List Int := (List.range (hi - lo).toNat).map fun (i : Nat) => lo + (i : Int)
def okR (i : Int) : Prop := -1000000 ≤ i ∧ i ≤ 1000000
instance (i : Int) : Decidable (okR i) := inferInstanceAs (Decidable (_ ∧ _))
theorem okR.lo {i : Int} (h : okR i) : -(2 ^ 62) ≤ i := by obtain ⟨a, b⟩ := h; omega
theorem okR.hi {i : Int} (h : okR i) : i < 2 ^ 62 := by obtain ⟨a, b⟩ := h; omega
theorem rangeL_get {lo hi : Int} {i : Nat} (h : i < (hi - lo).toNat) : (rangeL lo hi).drop i = (lo + (i : Int)) :: (rangeL lo hi).drop (i + 1) := by
  unfold rangeL
  rw [List.drop_eq_getElem_cons (by simpa using h)]
  simp
theorem rangeL_end {lo hi : Int} : (rangeL lo hi).drop (hi - lo).toNat = [] := by
  rw [List.drop_eq_nil_iff]
  unfold rangeL
  simp
section
variable {a b : Type} {Q : a → Prop} {E : String → Prop} {H : Hp}
theorem wp_setI {xs : List b} {i : Int} {y : b} {k : List b → M a} (h : wp (setI xs i y >>= k) Q E) : ∃ j, ixN xs.length i = some j ∧ wp (k (xs.set j y)) Q E := by
  unfold setI at h
  cases e : ixN xs.length i with
  | none => rw [e] at h; exact h.elim
  | some j => rw [e] at h; exact ⟨j, rfl, h⟩
theorem wp_popI {xs : List b} {i : Int} {k : b × List b → M a} (h : wp (popI xs i >>= k) Q E) : ∃ j y, seqIndex? i xs.length = some j ∧ -(2 ^ 63) ≤ i ∧ i < 2 ^ 63 ∧ xs[j]? = some y ∧ wp (k (y, xs.eraseIdx j)) Q E := by
  unfold popI at h
  by_cases hl : xs.length < 16777216
  · rw [if_pos hl] at h
    cases e : ixN xs.length i with
    | none => rw [e] at h; exact h.elim
    | some j =>
      rw [e] at h
      have h : wp ((match xs[j]? with
        | some y => .ok (y, xs.eraseIdx j)
        | none => bad) >>= k) Q E := h
      cases e2 : xs[j]? with
      | none => rw [e2] at h; exact h.elim
      | some y =>
        rw [e2] at h
        obtain ⟨q1, q2, q3, q4⟩ := ixN_seq e
        exact ⟨j, y, q1, by omega, by omega, e2, h⟩
  · rw [if_neg hl] at h
    exact h.elim
theorem wp_popL {xs : List b} {k : b × List b → M a} (h : wp (popL xs >>= k) Q E) : ∃ y, xs[xs.length - 1]? = some y ∧ wp (k (y, xs.dropLast)) Q E := by
  unfold popL at h
  cases e : xs[xs.length - 1]? with
  | none => rw [e] at h; exact h.elim
  | some y => rw [e] at h; exact ⟨y, rfl, h⟩
theorem wp_appL {xs : List b} {y : b} {k : List b → M a} (h : wp (appL xs y >>= k) Q E) : xs.length < sizeLine ∧ wp (k (xs ++ [y])) Q E := by
  unfold appL at h
  by_cases hl : xs.length < 16777216
  · rw [if_pos hl] at h
    exact ⟨lt_line hl, h⟩
  · rw [if_neg hl] at h
    exact h.elim
end
/-! loops, by what is left to be done -/
section
variable {i s r a c : Type} {Q : a → Prop} {E : String → Prop}
theorem loopN_L {b : i → s → M s} {xs : List i} {x : s} {k : s → M a} (h : wp (loopN b xs x >>= k) Q E) :
    ∃ L : List i → s → Prop, L xs x ∧ (∀ y ys x, L (y :: ys) x → wp (b y x) (fun x' => L ys x') E) ∧ ∀ x, L [] x → wp (k x) Q E := by
  refine ⟨fun ys x => wp (loopN b ys x >>= k) Q E, h, fun y ys x hx => ?_, fun x hx => hx⟩
  have hx : wp (loopN b (y :: ys) x >>= k) Q E := hx
  rw [wp_bind] at hx
  have hx : wp (b y x >>= fun x' => loopN b ys x') (fun x => wp (k x) Q E) E := hx
  rw [wp_bind] at hx
  cases e : b y x with
  | ok z =>
    rw [e] at hx
    exact wp_bind.mpr hx
  | error e2 =>
    rw [e] at hx
    cases e2 <;> exact hx
theorem loopM_L {b : i → s → M (Fl s r)} {xs : List i} {x : s} {k : Fl s r → M a} (h : wp (loopM b xs x >>= k) Q E) :
    ∃ L : List i → s → Prop, L xs x ∧ (∀ y ys x, L (y :: ys) x → wp (b y x) (fun f => match f with
      | .nx x' => L ys x'
      | .rt z => wp (k (.rt z)) Q E) E) ∧ ∀ x, L [] x → wp (k (.nx x)) Q E := by
  refine ⟨fun ys x => wp (loopM b ys x >>= k) Q E, h, fun y ys x hx => ?_, fun x hx => hx⟩
  have hx : wp (loopM b (y :: ys) x >>= k) Q E := hx
  rw [wp_bind] at hx
  cases e : b y x with
  | ok z =>
    have hx : wp (b y x >>= fun f => match f with
      | .nx x' => loopM b ys x'
      | .rt z => .ok (.rt z)) (fun x => wp (k x) Q E) E := hx
    rw [e] at hx
    cases z with
    | nx z => exact wp_bind.mpr hx
    | rt z => exact hx
  | error e2 =>
    have hx : wp (b y x >>= fun f => match f with
      | .nx x' => loopM b ys x'
      | .rt z => .ok (.rt z)) (fun x => wp (k x) Q E) E := hx
    rw [e] at hx
    cases e2 <;> exact hx
theorem whileN_L {c : s → M Bool} {b : s → M s} {n : Nat} {x : s} {k : s → M a} (h : wp (whileN c b n x >>= k) Q E) :
    ∃ L : Nat → s → Prop, L n x ∧ ∀ m x, L m x → wp (c x) (fun t => if t = true then ∃ m', m' < m ∧ wp (b x) (fun x' => L m' x') E else wp (k x) Q E) E := by
  refine ⟨fun n x => wp (whileN c b n x >>= k) Q E, h, fun m x hx => ?_⟩
  cases m with
  | zero => exact hx.elim
  | succ m =>
    have hx : wp ((c x >>= fun t => if t = true then b x >>= fun x' => whileN c b m x' else .ok x) >>= k) Q E := hx
    rw [wp_bind, wp_bind] at hx
    cases e : c x with
    | error e2 => rw [e] at hx; cases e2 <;> exact hx
    | ok t =>
      rw [e] at hx
      cases t with
      | false => exact hx
      | true =>
        refine ⟨m, Nat.lt_succ_self m, ?_⟩
        have hx : wp (b x >>= fun x' => whileN c b m x') (fun x => wp (k x) Q E) E := hx
        rw [wp_bind] at hx
        cases e : b x with
        | error e2 => rw [e] at hx; cases e2 <;> exact hx
        | ok z =>
          rw [e] at hx
          exact wp_bind.mpr hx
theorem whileM_L {c : s → M Bool} {b : s → M (Fl s r)} {n : Nat} {x : s} {k : Fl s r → M a} (h : wp (whileM c b n x >>= k) Q E) :
    ∃ L : Nat → s → Prop, L n x ∧ ∀ m x, L m x → wp (c x) (fun t => if t = true then ∃ m', m' < m ∧ wp (b x) (fun f => match f with
      | .nx x' => L m' x'
      | .rt z => wp (k (.rt z)) Q E) E else wp (k (.nx x)) Q E) E := by
  refine ⟨fun n x => wp (whileM c b n x >>= k) Q E, h, fun m x hx => ?_⟩
  cases m with
  | zero => exact hx.elim
  | succ m =>
    have hx : wp ((c x >>= fun t => if t = true then b x >>= fun
      | .nx x' => whileM c b m x'
      | .rt z => .ok (.rt z)
    else .ok (.nx x)) >>= k) Q E := hx
    rw [wp_bind, wp_bind] at hx
    cases e : c x with
    | error e2 => rw [e] at hx; cases e2 <;> exact hx
    | ok t =>
      rw [e] at hx
      cases t with
      | false => exact hx
      | true =>
        refine ⟨m, Nat.lt_succ_self m, ?_⟩
        have hx : wp (b x >>= fun
          | .nx x' => whileM c b m x'
          | .rt z => .ok (.rt z)) (fun x => wp (k x) Q E) E := hx
        rw [wp_bind] at hx
        cases e : b x with
        | error e2 => rw [e] at hx; cases e2 <;> exact hx
        | ok z =>
          rw [e] at hx
          cases z with
          | nx z => exact wp_bind.mpr hx
          | rt z => exact hx
/-- a comprehension: what it has made so far, then the items left; no exception leaves it -/
def compX (b : i → s → M (Option c × s)) : List i → List c → s → M (List c × s)
  | [], acc, x => .ok (acc, x)
  | y :: ys, acc, x => nox (b y x) >>= fun p => compX b ys (match p.1 with
    | some z => acc ++ [z]
    | none => acc) p.2
/-- the list is short enough -/
def compS (b : i → s → M (Option c × s)) (xs : List i) (x : s) : M (List c × s) := chk (xs.length < 16777216) >>= fun _ => compX b xs [] x
theorem compX_L {b : i → s → M (Option c × s)} {k : List c × s → M a} : ∀ {xs : List i} {acc : List c} {x : s}, wp (compX b xs acc x >>= k) Q E →
    ∃ L : List i → List c → s → Prop, L xs acc x ∧ (∀ y ys acc x, L (y :: ys) acc x → wp (b y x) (fun p => L ys (match p.1 with
      | some z => acc ++ [z]
      | none => acc) p.2) (fun _ => False)) ∧ ∀ acc x, L [] acc x → wp (k (acc, x)) Q E := by
  intro xs acc x h
  refine ⟨fun ys acc x => wp (compX b ys acc x >>= k) Q E, h, fun y ys acc x hx => ?_, fun acc x hx => hx⟩
  have hx : wp ((nox (b y x) >>= fun p => compX b ys (match p.1 with
    | some z => acc ++ [z]
    | none => acc) p.2) >>= k) Q E := hx
  rw [wp_bind] at hx
  obtain ⟨p, e, hx⟩ := wp_nox hx
  rw [e]
  exact wp_bind.mpr hx
theorem compS_L {b : i → s → M (Option c × s)} {k : List c × s → M a} {xs : List i} {x : s} (h : wp (compS b xs x >>= k) Q E) : xs.length < 16777216 ∧
    ∃ L : List i → List c → s → Prop, L xs [] x ∧ (∀ y ys acc x, L (y :: ys) acc x → wp (b y x) (fun p => L ys (match p.1 with
      | some z => acc ++ [z]
      | none => acc) p.2) (fun _ => False)) ∧ ∀ acc x, L [] acc x → wp (k (acc, x)) Q E := by
  unfold compS at h
  rw [wp_bind] at h
  obtain ⟨h1, h2⟩ := wp_chk h
  exact ⟨h1, compX_L (wp_bind.mpr h2)⟩
end
theorem drop_at {a : Type} {xs : List a} {i : Nat} {x : a} (h : xs[i]? = some x) : xs.drop i = x :: xs.drop (i + 1) := by
  obtain ⟨h1, h2⟩ := List.getElem?_eq_some_iff.mp h
  rw [List.drop_eq_getElem_cons h1, h2]
theorem drop_end {a : Type} {xs : List a} {vs : List V} (h : vs.length = xs.length) : xs.drop vs.length = [] := by
  rw [h, List.drop_length]

/-! ### a def as it stands -/
structure Df (K : PySem.W.Frag) (mg : Str → Option Value) (x qual : Str) (st : Stmt) (ps : List Str) : Prop where
  ex : ∃ f fd, Fun K x qual st f fd ∧ mg x = some (.ref f) ∧ Binds K fd ps []
structure Ca (P : Program) (w : World) (K : PySem.W.Frag) (mg : Str → Option Value) (base : Heap) (x : Str) (k : Nat) (ps : List Str) (sp : Sp) : Prop where
  ex : ∃ f fd, FnOk P w K mg base (L2.CX P w) k f fd ps sp ∧ mg x = some (.ref f) ∧ PySem.W.keepIn K (.ref f) = true ∧ Binds K fd ps []
/-- an exception class of the program -/
structure Xc (K : PySem.W.Frag) (mg : Str → Option Value) (x : Str) (C : Addr) : Prop where
  g : mg x = some (.ref C)
  x : PySem.W.excIn K C [.type "ValueError", .type "Exception", .type "BaseException", .type "object"] "ValueError.__new__" = true
  k : PySem.W.keepIn K (.ref C) = true
  b : PySem.W.subIn K (.ref C) (.type "BaseException") = some true
  t : PySem.W.typeIn K (.ref C) = some (.type "type")
section
variable {P : Program} {w : World} {K : PySem.W.Frag} {mg : Str → Option Value} {base : Heap}
theorem Ca.mk' {x qual : Str} {st : Stmt} {N ps : List Str} {k : Nat} {sp : Sp} (D : Df K mg x qual st ps) (S : FnScope N ps (defScope st)) (len : ∀ vs H Q E, sp vs H Q E → vs.length = ps.length)
    (hbody : ∀ (qual' : Str) (f : Addr) (cdv : Value) (A : Around) (outer : List Env) (s : Shared) (H : Hp) (vs : List V) (Q : VK) (E : XK), Room k (A.deeper (envOfC qual (defScope st) s.heap.objs.size f cdv)) → sp vs H Q E →
      ∃ t, PSs (cxOf (L2.CX P w) P w K mg base N qual (defScope st) f cdv A outer s H E) (defBody st) t ∧ t { nx := fun _ H' => Q .non H', rt := Q } (start N vs) H) : Ca P w K mg base x (k + 1) ps sp := by
  obtain ⟨f, fd, F, m, b⟩ := D.ex
  exact ⟨f, fd, F.okX S len fun cdv A outer s H vs Q E hr h => hbody qual f cdv A outer s H vs Q E hr h, m, F.kp, b⟩
end
section
variable {X : Cx}
/-- len of a list or tuple -/
def rLenT : List V → Hp → VK → Prop := fun vs H Q => ∃ (l : Addr) (ws : List V) (n : Nat), vs = [.ref l] ∧ (H l = some (.lst ws) ∨ H l = some (.tup ws)) ∧ ws.length = n ∧ Q (.int n) H
theorem call_lenT : CallR X (.builtin "len") rLenT := by
  intro pins s σ H vs us Q I r h
  obtain ⟨l, ws, n, e, hl, rfl, k⟩ := h
  refine call_len_seq pins s σ H vs us Q I r ⟨l, ws, e, ?_, k⟩
  rcases hl with hl | hl
  · exact .inl (SqL.of hl)
  · exact .inr (SqT.of hl)
end

section
variable {Z : Ent} {F F' H H' : Hp} {cs : List (Addr × HO)} {p a : Addr} {o o' : HO}
theorem Ow.putE (O : Ow Z F cs H) (h : H p = none) (o : HO) : ∃ F', Ow Z F' cs (upd H p o) ∧ Same F F' ∧ F' p = some o := ⟨_, O.put h, O.putS h, upd_same⟩
theorem Ow.was (O : Ow Z F cs H) (h : H p = none) : Z.H p = none := by
  cases q : Z.H p with
  | none => rfl
  | some u => exact absurd h (O.g.t p (by rw [q]; simp))
theorem Ow.frzE (O : Ow Z F cs H) (i : Nat) (e : cs[i]? = some (a, o)) (hz : Z.H a = none) : ∃ F', Ow Z F' (cs.eraseIdx i) H ∧ Same F F' ∧ F' a = some o := ⟨_, O.frz i e hz, O.frzS i e, upd_same⟩
/-- a cell that a call made -/
theorem Ow.got (O : Ow Z F cs H) (O' : Ow Z F' cs' H') (hk : cs'.map (·.1) = cs.map (·.1)) (hn : H p = none) (hf : F' p = none) (h : H' p = some o) (ht : noTup o = true := by rfl) : Ow Z F' ((p, o) :: cs') H' :=
  O'.add O (fun c hc => by rw [← hk]; exact List.mem_map.mpr ⟨c, hc, rfl⟩) hn hf h ht
end
theorem rangeL_get0 {n : Int} {i : Nat} (h : i < n.toNat) : (rangeL 0 n).drop i = (0 + (i : Int)) :: (rangeL 0 n).drop (i + 1) := rangeL_get (by simpa using h)
theorem rangeL_end0 {n : Int} : (rangeL 0 n).drop n.toNat = [] := by
  have := rangeL_end (lo := 0) (hi := n)
  simpa using this
theorem iteD {c A B : Prop} [Decidable c] (h1 : c → A) (h2 : ¬ c → B) : if decide c = true then A else B := by
  by_cases h : c
  · rw [decide_eq_true h, if_pos rfl]; exact h1 h
  · rw [decide_eq_false h, if_neg Bool.false_ne_true]; exact h2 h
theorem iteN {c A B : Prop} [Decidable c] (h1 : c → B) (h2 : ¬ c → A) : if (!decide c) = true then A else B := by
  by_cases h : c
  · rw [decide_eq_true h]; exact h1 h
  · rw [decide_eq_false h]; exact h2 h
theorem iteB {b : Bool} {A B : Prop} (h1 : b = true → A) (h2 : ¬ b = true → B) : if b = true then A else B := by
  cases b with
  | true => exact h1 rfl
  | false => exact h2 Bool.false_ne_true
theorem iteBN {b : Bool} {A B : Prop} (h1 : b = true → B) (h2 : ¬ b = true → A) : if (!b) = true then A else B := by
  cases b with
  | true => exact h1 rfl
  | false => exact h2 Bool.false_ne_true
theorem iteNT {A B : Prop} (h : B) : if (!true) = true then A else B := h
theorem iteNF {A B : Prop} (h : A) : if (!false) = true then A else B := h
theorem wp_if {a : Type} {Q : a → Prop} {E : String → Prop} {c : Prop} [Decidable c] {x y : M a} (h : wp (if c then x else y) Q E) (hc : c) : wp x Q E := by
  rw [if_pos hc] at h
  exact h
theorem wp_el {a : Type} {Q : a → Prop} {E : String → Prop} {c : Prop} [Decidable c] {x y : M a} (h : wp (if c then x else y) Q E) (hc : ¬ c) : wp y Q E := by
  rw [if_neg hc] at h
  exact h

theorem hu128_of {A : Around} {k : Nat} (hr : Room k A) : A.units + 128 < cLine := by have := hr.un; omega
def cutL {a : Type} (xs : List a) (lo hi : Option Int) : List a := (xs.drop (HT.sIx xs.length 0 lo)).take (HT.sIx xs.length xs.length hi - HT.sIx xs.length 0 lo)
theorem RL.cutL {a : Type} [Py a] {H : Hp} {vs : List V} {xs : List a} (h : RL H vs xs) (lo hi : Option Int) : RL H (cutV vs lo hi) (PG.cutL xs lo hi) := h.cut lo hi
theorem RL.last {a : Type} [Py a] {H : Hp} {vs : List V} {xs : List a} {y : a} (h : RL H vs xs) (e : xs[xs.length - 1]? = some y) : ∃ w, vs[vs.length - 1]? = some w ∧ R H w y := by
  obtain ⟨w, e1, h1⟩ := h.get e
  exact ⟨w, by rw [h.len]; exact e1, h1⟩

theorem okR.rg1 {n : Int} (h : okR n) : RgOk 0 n := by
  obtain ⟨a, b⟩ := h
  exact ⟨by omega, by omega, by omega, by omega, by omega⟩
theorem rgV_eq (a b : Int) : rgV a b = (rangeL a b).map V.int := by
  unfold rgV rangeL
  rw [List.map_map]
  rfl
theorem RL.rg {H : Hp} {a b : Int} : RL H (rgV a b) (rangeL a b) := by
  rw [rgV_eq]
  exact RL.of_ints

theorem comp_len {b : Type} {w vs : List V} {xs : List b} {i : Nat} {x : V} (la : w.length ≤ i) (hi : vs[i]? = some x) (hl : vs.length = xs.length) (c : xs.length < 16777216) : w.length < sizeLine := by
  have := (List.getElem?_eq_some_iff.mp hi).1
  exact lt_line (by omega)
theorem rangeL_length (lo hi : Int) : (rangeL lo hi).length = (hi - lo).toNat := by
  unfold rangeL
  simp
theorem comp_lenR {w : List V} {lo hi : Int} {i n : Nat} (la : w.length ≤ i) (h : i < n) (e : (hi - lo).toNat = n) (c : (rangeL lo hi).length < 16777216) : w.length < sizeLine := by
  rw [rangeL_length] at c
  exact lt_line (by omega)
theorem tYes_ {σ : L2.St} {H : Hp} {Q : Bool → Hp → Prop} (h : Q true H) : tYes σ H Q := h

/-! lists of own lists of ints -/
abbrev LC := Addr × List Int
def lcell (c : LC) : Addr × HO := (c.1, .lst (c.2.map V.int))
theorem Ow.perm {Z : Ent} {F H : Hp} {cs cs' : List (Addr × HO)} (O : Ow Z F cs H) (h : cs.Perm cs') : Ow Z F cs' H where
  g := O.g
  cf := fun c hc => O.cf c (h.mem_iff.mpr hc)
  ch := fun c hc => O.ch c (h.mem_iff.mpr hc)
  nd := (h.map _).nodup_iff.mp O.nd
  ca := fun c hc => O.ca c (h.mem_iff.mpr hc)
  nt := fun c hc => O.nt c (h.mem_iff.mpr hc)
theorem Ow.sub {Z : Ent} {F H : Hp} {cs cs' : List (Addr × HO)} (O : Ow Z F cs H) (h : cs'.Sublist cs) : Ow Z F cs' H where
  g := O.g
  cf := fun c hc => O.cf c (h.subset hc)
  ch := fun c hc => O.ch c (h.subset hc)
  nd := O.nd.sublist (h.map _)
  ca := fun c hc => O.ca c (h.subset hc)
  nt := fun c hc => O.nt c (h.subset hc)
/-- a new list of new lists -/
structure OwnLL (H F' H' : Hp) (p : Addr) (ps : List LC) : Prop where
  pn : H p = none
  pf : F' p = none
  ph : H' p = some (.lst (ps.map fun c => V.ref c.1))
  qn : ∀ c ∈ ps, H c.1 = none
  qf : ∀ c ∈ ps, F' c.1 = none
  qh : ∀ c ∈ ps, H' c.1 = some (.lst (c.2.map V.int))
  nd : (p :: ps.map (·.1)).Nodup
theorem OwnLL.frz {F H F' H' : Hp} {p : Addr} {ps : List LC} {as : List Addr} (G : Gr as F H F' H') (L : OwnLL H F' H' p ps) :
    ∃ F2, Gr as F H F2 H' ∧ F2 p = none ∧ RL F2 (ps.map fun c => V.ref c.1) (ps.map (·.2)) := by
  refine ⟨fun b => if b ∈ ps.map (·.1) then H' b else F' b, ⟨fun b o e => ?_, fun b o e => ?_, G.k, G.t, fun b e => ?_, G.u⟩, ?_, ?_⟩
  · have h1 := G.f b o e
    by_cases hb : b ∈ ps.map (·.1)
    · obtain ⟨c, hc, rfl⟩ := List.mem_map.mp hb
      rw [L.qf c hc] at h1
      cases h1
    · show (if b ∈ ps.map (·.1) then H' b else F' b) = some o
      rw [if_neg hb]
      exact h1
  · have e : (if b ∈ ps.map (·.1) then H' b else F' b) = some o := e
    by_cases hb : b ∈ ps.map (·.1)
    · rw [if_pos hb] at e
      exact e
    · rw [if_neg hb] at e
      exact G.s b o e
  · show (if b ∈ ps.map (·.1) then H' b else F' b) = F b ∨ _
    have hb : b ∉ ps.map (·.1) := fun hb => by
      obtain ⟨c, hc, rfl⟩ := List.mem_map.mp hb
      exact e (L.qn c hc)
    rw [if_neg hb]
    exact G.n b e
  · show (if p ∈ ps.map (·.1) then H' p else F' p) = none
    rw [if_neg (List.nodup_cons.mp L.nd).1]
    exact L.pf
  · have all : ∀ l : List LC, (∀ c ∈ l, c ∈ ps) → RL (fun b => if b ∈ ps.map (·.1) then H' b else F' b) (l.map fun c => V.ref c.1) (l.map (·.2)) := by
      intro l
      induction l with
      | nil => intro _; exact RL.nil
      | cons c l ih =>
        intro h
        have hc := h c List.mem_cons_self
        refine RL.cons (R.lst (vs := c.2.map V.int) ?_ RL.of_ints) (ih fun d hd => h d (List.mem_cons_of_mem _ hd))
        show (if c.1 ∈ ps.map (·.1) then H' c.1 else F' c.1) = _
        rw [if_pos (List.mem_map.mpr ⟨c, hc, rfl⟩)]
        exact L.qh c hc
    exact all ps fun _ h => h
theorem FnOk.impC {P : Program} {w : World} {K : PySem.W.Frag} {mg : Str → Option Value} {base : Heap} {x : Str} {k : Nat} {ps : List Str} {sp sp' : Sp} (F : Ca P w K mg base x k ps sp) (h : ∀ vs H Q E, sp' vs H Q E → sp vs H Q E) : Ca P w K mg base x k ps sp' := by
  obtain ⟨f, fd, G, m, kp, b⟩ := F.ex
  exact ⟨f, fd, G.imp h, m, kp, b⟩
theorem wp_mono {a : Type} {Q Q' : a → Prop} {E : String → Prop} {m : M a} (h : wp m Q E) (f : ∀ r, Q r → Q' r) : wp m Q' E := wp_tail h (fun r _ q => f r q) fun _ e => e
/-- a scalar call that reads a cell: the cell is as it was, and nothing of the call is kept -/
theorem Ow.borrow {Z : Ent} {F F1 F' H H' : Hp} {cs : List (Addr × HO)} (O : Ow Z F cs H) (s1 : Same F F1) (g : Gr [] F1 H F' H') : Ow Z F cs H' where
  g := ⟨O.g.f, (s1.trans g.f).trans g.s, fun b o hb e => g.k b o (fun h => nomatch h) (O.g.k b o hb e), fun b e => g.t b (O.g.t b e), O.g.n, fun b xs e => by
    rcases g.u b xs e with z | z
    · refine .inl ?_
      cases q : Z.H b with
      | none => rfl
      | some u => exact absurd z (O.g.t b (by rw [q]; simp))
    · exact O.g.u b xs z⟩
  cf := O.cf
  ch := fun c hc => g.k _ _ (fun h => nomatch h) (O.ch c hc)
  nd := O.nd
  ca := O.ca
  nt := O.nt
theorem Ow.lend {Z : Ent} {F H : Hp} {cs : List (Addr × HO)} {a : Addr} {o : HO} (O : Ow Z F cs H) (i : Nat) (e : cs[i]? = some (a, o)) : ∃ F1, Same F F1 ∧ Pre F1 [] H ∧ F1 a = some o := by
  have m := List.mem_of_getElem? e
  refine ⟨upd F a o, Same.new (O.cf _ m), ⟨fun b u q => ?_, (fun _ h => nomatch h), (fun _ h => nomatch h), List.nodup_nil, fun _ h => nomatch h⟩, upd_same⟩
  by_cases hb : b = a
  · subst hb; rw [upd_same] at q; rw [← q]; exact O.ch _ m
  · rw [upd_ne hb] at q; exact O.s b u q

abbrev lrefs (ps : List LC) : List V := ps.map fun (c : LC) => V.ref c.1

def ret {a : Type} (x : a) : M a := .ok x
theorem wp_ret {a b : Type} {Q : a → Prop} {E : String → Prop} {x : b} {k : b → M a} (h : wp (ret x >>= k) Q E) : ∃ y, y = x ∧ wp (k y) Q E := ⟨x, rfl, h⟩

/-- tuples that stand may be read -/
theorem Ow.tups {Z : Ent} {F H : Hp} {cs : List (Addr × HO)} (O : Ow Z F cs H) (bs : List Addr) (h : ∀ b ∈ bs, ∃ xs, H b = some (.tup xs)) : ∃ F', Ow Z F' cs H ∧ Same F F' ∧ ∀ b ∈ bs, F' b = H b := by
  refine ⟨fun b => if b ∈ bs then H b else F b, ⟨⟨fun b o e => ?_, fun b o e => ?_, O.g.k, O.g.t, fun b e => ?_, O.g.u⟩, fun c hc => ?_, O.ch, O.nd, O.ca, O.nt⟩, fun b o e => ?_, fun b hb => if_pos hb⟩
  · have h1 := O.g.f b o e
    show (if b ∈ bs then H b else F b) = some o
    by_cases hb : b ∈ bs
    · rw [if_pos hb]; exact O.s b o h1
    · rw [if_neg hb]; exact h1
  · have e : (if b ∈ bs then H b else F b) = some o := e
    by_cases hb : b ∈ bs
    · rw [if_pos hb] at e; exact e
    · rw [if_neg hb] at e; exact O.s b o e
  · show (if b ∈ bs then H b else F b) = Z.F b ∨ _
    by_cases hb : b ∈ bs
    · obtain ⟨xs, hx⟩ := h b hb
      rcases O.g.u b xs hx with z | z
      · exact absurd z e
      · exact .inr ⟨xs, z⟩
    · rw [if_neg hb]; exact O.g.n b e
  · show (if c.1 ∈ bs then H c.1 else F c.1) = none
    by_cases hb : c.1 ∈ bs
    · obtain ⟨xs, hx⟩ := h c.1 hb
      have hn := O.nt c hc
      rw [O.ch c hc] at hx
      rw [Option.some.inj hx] at hn
      cases hn
    · rw [if_neg hb]; exact O.cf c hc
  · show (if b ∈ bs then H b else F b) = some o
    by_cases hb : b ∈ bs
    · rw [if_pos hb]; exact O.s b o e
    · rw [if_neg hb]; exact e
end PG

set_option Elab.async false
set_option linter.all false
set_option maxRecDepth 100000
set_option maxHeartbeats 4000000
namespace PG
open PySem PySem.Spec PyProof.Rows L2
open PySem.W (T3 T4 Datum DatumOrd Holds HoldAll EachIs)

theorem u1_of {n : Nat} (h : n + 64 < cLine) : n + 1 < cLine := Nat.lt_of_le_of_lt (Nat.add_le_add_left (by decide) _) h
/-! ### dicts: what stands for a key -/
class DK (κ : Type) (K' : outParam Type) where
  kk : κ → K'
  inj : ∀ a b, kk a = kk b → a = b
instance : DK Int Key := ⟨Sum.inl, fun _ _ h => Sum.inl.inj h⟩
instance : DK Str Key := ⟨Sum.inr, fun _ _ h => Sum.inr.inj h⟩
instance : DK (Int × Int) (List Key) := ⟨fun p => [.inl p.1, .inl p.2], fun a b h => by
  injection h with h1 h2
  injection h2 with h2 _
  exact Prod.ext (Sum.inl.inj h1) (Sum.inl.inj h2)⟩
section
variable {κ K' β : Type} [DK κ K'] [Py β]
inductive RD (F : Hp) : List (K' × V) → List (κ × β) → Prop
  | nil : RD F [] []
  | cons {k : κ} {v : V} {y : β} {kvs : List (K' × V)} {xs : List (κ × β)} : R F v y → RD F kvs xs → RD F ((DK.kk k, v) :: kvs) ((k, y) :: xs)
variable {F F' : Hp}
theorem RD.mono {kvs : List (K' × V)} {xs : List (κ × β)} (h : RD F kvs xs) (s : Same F F') : RD F' kvs xs := by
  induction h with
  | nil => exact .nil
  | cons h _ ih => exact .cons (h.mono s) ih
theorem RD.len {kvs : List (K' × V)} {xs : List (κ × β)} (h : RD F kvs xs) : kvs.length = xs.length := by
  induction h with
  | nil => rfl
  | cons h _ ih => rw [List.length_cons, List.length_cons, ih]
theorem RD.keys {kvs : List (K' × V)} {xs : List (κ × β)} (h : RD F kvs xs) : kvs.map (·.1) = (xs.map (·.1)).map DK.kk := by
  induction h with
  | nil => rfl
  | cons h _ ih => rw [List.map_cons, List.map_cons, List.map_cons, ih]
end
section
variable {κ K' β : Type} [DK κ K'] [DecidableEq κ] [DecidableEq K'] [Py β] {F F' : Hp}
def dGet (xs : List (κ × β)) (k : κ) : Option β := (xs.find? fun p => decide (p.1 = k)).map (·.2)
def dPut (xs : List (κ × β)) (k : κ) (y : β) : List (κ × β) :=
  if (xs.any fun p => decide (p.1 = k)) = true then xs.map (fun p => if p.1 = k then (p.1, y) else p) else xs ++ [(k, y)]
def dHas (xs : List (κ × β)) (k : κ) : Bool := (dGet xs k).isSome
theorem kk_dec {a b : κ} : decide ((DK.kk a : K') = DK.kk b) = decide (a = b) := by
  by_cases h : a = b
  · subst h; simp
  · rw [decide_eq_false h, decide_eq_false fun z => h (DK.inj a b z)]
theorem dGet_pos {p : κ × β} {r : List (κ × β)} {k : κ} (e : p.1 = k) : dGet (p :: r) k = some p.2 := by simp [dGet, List.find?_cons, e]
theorem dGet_neg {p : κ × β} {r : List (κ × β)} {k : κ} (e : ¬ p.1 = k) : dGet (p :: r) k = dGet r k := by simp [dGet, List.find?_cons, e]
theorem RD.get {kvs : List (K' × V)} {xs : List (κ × β)} (h : RD F kvs xs) (k : κ) :
    (dGet xs k = none ∧ valV kvs (DK.kk k) = none) ∨ ∃ y v, dGet xs k = some y ∧ valV kvs (DK.kk k) = some v ∧ R F v y := by
  induction h with
  | nil => exact .inl ⟨rfl, rfl⟩
  | @cons j v y kvs xs h hs ih =>
    by_cases e : j = k
    · exact .inr ⟨y, v, dGet_pos e, valV_pos (by rw [e]), h⟩
    · rw [dGet_neg (p := (j, y)) e, valV_neg (fun z => e (DK.inj j k z))]
      exact ih
theorem RD.some {kvs : List (K' × V)} {xs : List (κ × β)} (h : RD F kvs xs) {k : κ} {y : β} (e : dGet xs k = some y) : ∃ v, valV kvs (DK.kk k) = some v ∧ R F v y := by
  rcases h.get k with ⟨a, _⟩ | ⟨y', v, a, b, c⟩
  · rw [e] at a; cases a
  · rw [e] at a; cases a; exact ⟨v, b, c⟩
theorem RD.is {kvs : List (K' × V)} {xs : List (κ × β)} (h : RD F kvs xs) (k : κ) : (valV kvs (DK.kk k)).isSome = dHas xs k := by
  unfold dHas
  rcases h.get k with ⟨a, b⟩ | ⟨y', v, a, b, c⟩
  · rw [a, b]; rfl
  · rw [a, b]; rfl
theorem RD.map {kvs : List (K' × V)} {xs : List (κ × β)} (h : RD F kvs xs) (k : κ) {v : V} {y : β} (hv : R F v y) :
    RD F (kvs.map fun kv => if kv.1 = DK.kk k then (kv.1, v) else kv) (xs.map fun p => if p.1 = k then (p.1, y) else p) := by
  induction h with
  | nil => exact .nil
  | @cons j u z kvs xs h hs ih =>
    rw [List.map_cons, List.map_cons]
    by_cases e : j = k
    · rw [if_pos e, if_pos (show (DK.kk j, u).1 = DK.kk k by rw [e])]
      exact .cons hv ih
    · rw [if_neg e, if_neg (show ¬ (DK.kk j, u).1 = DK.kk k from fun z => e (DK.inj j k z))]
      exact .cons h ih
theorem RD.snoc {kvs : List (K' × V)} {xs : List (κ × β)} (h : RD F kvs xs) (k : κ) {v : V} {y : β} (hv : R F v y) : RD F (kvs ++ [(DK.kk k, v)]) (xs ++ [(k, y)]) := by
  induction h with
  | nil => exact .cons hv .nil
  | cons h _ ih => exact .cons h ih
theorem RD.any {kvs : List (K' × V)} {xs : List (κ × β)} (h : RD F kvs xs) (k : κ) : (kvs.any fun kv => decide (kv.1 = DK.kk k)) = (xs.any fun p => decide (p.1 = k)) := by
  induction h with
  | nil => rfl
  | @cons j u z kvs xs h hs ih => rw [List.any_cons, List.any_cons, ih, kk_dec]
theorem RD.put {kvs : List (K' × V)} {xs : List (κ × β)} (h : RD F kvs xs) (k : κ) {v : V} {y : β} (hv : R F v y) : RD F (putK kvs (DK.kk k) v) (dPut xs k y) := by
  unfold putK dPut
  rw [h.any k]
  by_cases e : (xs.any fun p => decide (p.1 = k)) = true
  · rw [if_pos e, if_pos e]; exact h.map k hv
  · rw [if_neg e, if_neg e]; exact h.snoc k hv
def putD (xs : List (κ × β)) (k : κ) (y : β) : M (List (κ × β)) := if xs.length < 16777216 then .ok (dPut xs k y) else bad
theorem wp_putD {a : Type} {Q : a → Prop} {E : String → Prop} {xs : List (κ × β)} {j : κ} {y : β} {k : List (κ × β) → M a} (h : wp (putD xs j y >>= k) Q E) : xs.length < sizeLine ∧ wp (k (dPut xs j y)) Q E := by
  unfold putD at h
  by_cases hl : xs.length < 16777216
  · rw [if_pos hl] at h
    exact ⟨lt_line hl, h⟩
  · rw [if_neg hl] at h
    exact h.elim
end
/-- a dict that is read alone -/
class DO (K' : Type) where
  ho : List (K' × V) → HO
instance : DO Key := ⟨.dK⟩
instance : DO (List Key) := ⟨.dT⟩
section
variable {κ K' β : Type} [DK κ K'] [Py β] [DO K'] {F F' H : Hp} {v : V} {a b : Addr}
def RDv (F : Hp) (v : V) (xs : List (κ × β)) : Prop := ∃ (a : Addr) (kvs : List (K' × V)), v = .ref a ∧ F a = some (DO.ho kvs) ∧ RD F kvs xs
theorem RDv.mono {xs : List (κ × β)} (h : RDv F v xs) (s : Same F F') : RDv F' v xs := by
  obtain ⟨a, kvs, e, h1, h2⟩ := h
  exact ⟨a, kvs, e, s _ _ h1, h2.mono s⟩
theorem RDv.mk {xs : List (κ × β)} {kvs : List (K' × V)} (h : F a = some (DO.ho kvs)) (hr : RD F kvs xs) : RDv F (.ref a) xs := ⟨a, kvs, rfl, h, hr⟩
end
section
variable {β : Type} [Py β] {F H : Hp} {a b : Addr}
theorem dget_T {kvs : List (List Key × V)} {i j : Int} {v : V} (e : H a = some (.dT kvs)) (eb : H b = some (.tup [.int i, .int j])) (hv : valV kvs (DK.kk (i, j)) = some v) : DGet H a (.ref b) (some v) := by
  rw [← hv]
  exact DGet.t (k := [.inl i, .inl j]) e eb
theorem dget_I {kvs : List (Key × V)} {i : Int} {v : V} (e : H a = some (.dK kvs)) (hv : valV kvs (DK.kk i) = some v) : DGet H a (.int i) (some v) := by
  rw [← hv]
  exact DGet.k (k := .inl i) e
theorem dget_S {kvs : List (Key × V)} {i : Str} {v : V} (e : H a = some (.dK kvs)) (hv : valV kvs (DK.kk i) = some v) : DGet H a (.str i) (some v) := by
  rw [← hv]
  exact DGet.k (k := .inr i) e
theorem din_T {kvs : List (List Key × V)} {i j : Int} {xs : List ((Int × Int) × β)} (e : H a = some (.dT kvs)) (eb : H b = some (.tup [.int i, .int j])) (hr : RD F kvs xs) : ∃ o, DGet H a (.ref b) o ∧ o.isSome = dHas xs (i, j) :=
  ⟨_, DGet.t (k := [.inl i, .inl j]) e eb, hr.is (i, j)⟩
theorem din_I {kvs : List (Key × V)} {i : Int} {xs : List (Int × β)} (e : H a = some (.dK kvs)) (hr : RD F kvs xs) : ∃ o, DGet H a (.int i) o ∧ o.isSome = dHas xs i :=
  ⟨_, DGet.k (k := .inl i) e, hr.is i⟩
theorem din_S {kvs : List (Key × V)} {i : Str} {xs : List (Str × β)} (e : H a = some (.dK kvs)) (hr : RD F kvs xs) : ∃ o, DGet H a (.str i) o ∧ o.isSome = dHas xs i :=
  ⟨_, DGet.k (k := .inr i) e, hr.is i⟩
theorem dput_T {kvs : List (List Key × V)} {i j : Int} {v : V} (e : H a = some (.dT kvs)) (eb : H b = some (.tup [.int i, .int j])) (hl : kvs.length < sizeLine) : DPut H a (.ref b) v (upd H a (.dT (putK kvs (DK.kk (i, j)) v))) := DPut.t (k := [.inl i, .inl j]) e eb hl
theorem dput_I {kvs : List (Key × V)} {i : Int} {v : V} (e : H a = some (.dK kvs)) (hl : kvs.length < sizeLine) : DPut H a (.int i) v (upd H a (.dK (putK kvs (DK.kk i) v))) := DPut.k (k := .inl i) e hl
theorem dput_S {kvs : List (Key × V)} {i : Str} {v : V} (e : H a = some (.dK kvs)) (hl : kvs.length < sizeLine) : DPut H a (.str i) v (upd H a (.dK (putK kvs (DK.kk i) v))) := DPut.k (k := .inr i) e hl
end
/-! sorted(d), the keys pairs of whole numbers -/
theorem keys_tups {H : Hp} {kvs : List (List Key × V)} {bs : List Addr} (h : IsKeys H kvs bs) : ∀ b ∈ bs, ∃ xs, H b = some (.tup xs) := by
  unfold IsKeys at h
  induction h with
  | nil => intro b hb; simp at hb
  | cons h t ih =>
    intro c hc
    rcases List.mem_cons.mp hc with rfl | hc
    · exact ⟨_, h⟩
    · exact ih c hc
theorem keys_rl {H : Hp} {kvs : List (List Key × V)} {bs : List Addr} (h : IsKeys H kvs bs) : ∀ {ks : List (Int × Int)}, kvs.map (·.1) = ks.map DK.kk → RL H (bs.map V.ref) ks := by
  unfold IsKeys at h
  induction h with
  | nil =>
    intro ks e
    cases ks with
    | nil => exact RL.nil
    | cons k ks => simp at e
  | cons h t ih =>
    intro ks e
    cases ks with
    | nil => simp at e
    | cons k ks =>
      rw [List.map_cons, List.map_cons] at e
      injection e with e1 e2
      rw [e1] at h
      exact RL.cons (R.t2 h R.int R.int) (ih e2)
theorem keys_in {H F : Hp} {kvs : List (List Key × V)} {bs : List Addr} {ks : List (Int × Int)} (h : IsKeys H kvs bs) (hf : ∀ b ∈ bs, F b = H b) (e : kvs.map (·.1) = ks.map DK.kk) : RL F (bs.map V.ref) ks := by
  refine keys_rl ?_ e
  unfold IsKeys at h ⊢
  clear e
  induction h with
  | nil => exact .nil
  | @cons x b xs bs h t ih =>
    refine .cons ?_ (ih fun c hc => hf c (List.mem_cons_of_mem _ hc))
    rw [hf b List.mem_cons_self]
    exact h
section
variable {X : Cx}
theorem cr_sortedDT (hcalm : X.calm = true) (hu : X.A.units + 128 < cLine) : CallR X (.builtin "sorted") (fun xs H Q => ∃ (d : Addr) (kvs : List (List Key × V)) (ks : List (Int × Int)), xs = [.ref d] ∧ H d = some (.dT kvs) ∧ kvs.map (·.1) = ks.map DK.kk ∧
    ∀ (bs : List Addr) (p : Addr), IsKeys H kvs bs → H p = none → Q (.ref p) (upd H p (.lst (sortV (bs.map V.ref) ks)))) := by
  intro pins s σ H xs us Q I r q
  obtain ⟨d, kvs, ks', ex, hd, hks, q⟩ := q
  subst ex
  obtain ⟨u, eu, rx⟩ := vals1 r
  subst eu
  cases rx
  obtain ⟨z, hs, ks, pr, o, es, ep, ho, hx, hdt, he, hn⟩ := (show ObjOk X.prog X.w H s.heap d (.dT kvs) from I.hok d _ hd)
  have l1 : es.size = ks.length := size_of_entries he
  have l2 : kvs.length = ks.length := Paired.length pr
  refine Calls.call_function_entry PyProof.Rows.kind_sorted PyProof.Rows.plain_sorted PyProof.Rows.entry_sorted (PyProof.Rows.args_sorted1 _) ?_
  unfold Builtin.«sorted»
  refine wpAny_bind (m := checkCount "sorted" 1 1 _) (wpAny_pure ?_)
  refine wpAny_bind (PySem.W.kdu_collect (A := X.A.in1) (kdl_raw hs hx hdt) (I.ok.hd hcalm) ho (by omega) fun h' tk acc kp it => ?_)
  have ea : acc.toList = ks.map fun x => Value.ref x.2.1 := by
    have hl : acc.toList.length = ks.length := by rw [Array.length_toList, it.1]; exact l1
    apply List.ext_getElem?
    intro j
    rw [List.getElem?_map]
    cases hj : acc.toList[j]? with
    | none =>
      have h1 := List.getElem?_eq_none_iff.mp hj
      rw [List.getElem?_eq_none (by omega)]
      all_goals rfl
    | some v =>
      obtain ⟨en, hen, hv⟩ := it.2 j v (by rw [← Array.getElem?_toList]; exact hj)
      have qe := entry_at he j
      rw [hen] at qe
      cases hb : ks[j]? with
      | none =>
        rw [hb] at qe
        exact nomatch (show some en = none from qe)
      | some b =>
        rw [hb] at qe
        have e2 : en = entryOfKey (tupleKind (mixKind X.prog X.w)) b := Option.some.inj qe
        rw [hv, e2]
        all_goals rfl
  have eb : acc.toList = (ks.map fun (x : List Key × Addr × Value) => x.2.1).map Value.ref := by rw [ea, List.map_map]; all_goals rfl
  have rv : Vals ((ks.map fun (x : List Key × Addr × Value) => x.2.1).map V.ref) acc.toList := by rw [eb]; exact vals_refs _
  have hik : IsKeys H kvs (ks.map fun (x : List Key × Addr × Value) => x.2.1) := isKeys_of pr
  have hrl := keys_rl hik hks
  have hlen : ((ks.map fun (x : List Key × Addr × Value) => x.2.1).map V.ref).length = ks'.length := hrl.len
  have hal : acc.toList.length = ks.length := by rw [ea, List.length_map]
  have I1 : Inv X pins σ H { s with heap := h', toks := tk } := I.kept kp
  have hE := each_pairs hrl rv
  have hR : EachIs (fun u (p : V × (Int × Int)) => ∃ as, PySem.Reads h' u (Datum.toD p.2) as) acc.toList (((ks.map fun (x : List Key × Addr × Value) => x.2.1).map V.ref).zip ks') := each_imp (fun u p hp => hp.2.holds I1 hp.1) hE
  have hoL : (h'.push (seqObj "list" acc.toList.toArray 0)).get? h'.objs.size = some (seqObj "list" acc.toList.toArray 0) := Heap.get?_push_size _ rfl
  have hz : acc.toList.length ≤ sizeLine := by rw [hal]; omega
  refine wpAny_bind (wpAny_newList ?_ hz)
  show wpAny _ _ _ _ _ { s with heap := h'.push (seqObj "list" acc.toList.toArray 0), toks := tk }
  have er' : EachIs (fun v (p : V × (Int × Int)) => ∃ as, PySem.Reads (PySem.W.sortingHeap (h'.push (seqObj "list" acc.toList.toArray 0)) h'.objs.size acc.toList) v (Datum.toD p.2) as) acc.toList (((ks.map fun (x : List Key × Addr × Value) => x.2.1).map V.ref).zip ks') :=
    hR.mono fun _ _ ⟨as, r⟩ => ⟨as, PyProof.Rows.Reads.keeps (fun b o e => PySem.W.sortingHeap_old (Nat.ne_of_lt (Heap.lt_size e)) (Heap.get?_push_of_some _ e)) r⟩
  have hal2 : PySem.W.AllAlike ((((ks.map fun (x : List Key × Addr × Value) => x.2.1).map V.ref).zip ks').map fun p => Datum.toD p.2) := PySem.W.AllAlike.of fun p q => DatumOrd.alike p.2 q.2
  refine wpAny_bind (wpAny_holding (wpAny_call_entry PyProof.Rows.slot_list_sort ⟨_, hoL, rfl⟩ PyProof.Rows.entry_list_sort
    (PySem.W.list_sort_vals (κ := PySem.W.dataKind (PySem.W.sortingHeap (h'.push (seqObj "list" acc.toList.toArray 0)) h'.objs.size acc.toList) ((((ks.map fun (x : List Key × Addr × Value) => x.2.1).map V.ref).zip ks').map fun p => Datum.toD p.2)) (s := { s with heap := h'.push (seqObj "list" acc.toList.toArray 0), toks := tk }) hoL
      (PySem.W.SortsAt.data (s := { s with heap := PySem.W.sortingHeap (h'.push (seqObj "list" acc.toList.toArray 0)) h'.objs.size acc.toList, toks := tk }) (PySem.W.each_map (R := fun v d => ∃ as, PySem.Reads (PySem.W.sortingHeap (h'.push (seqObj "list" acc.toList.toArray 0)) h'.objs.size acc.toList) v d as) (fun (p : V × (Int × Int)) => Datum.toD p.2) er') hal2 ?_ ?_) hz ⟨_, rfl, ?_⟩)
    (PyProof.Rows.args_list_sort _)))
  · exact PySem.W.Sortable.tuples fun p => ⟨_, _, rfl⟩
  · intro dd hdd
    obtain ⟨p, _, rfl⟩ := List.mem_map.mp hdd
    have hdp : Datum.depth (Int × Int) ≤ 100 := by decide
    have := Datum.depth_le p.2
    have hA : X.A.in1.in1.units ≤ X.A.units + 2 := by simp [Around.in1]
    omega
  · have he2 := PySem.W.sortVals_data (R := fun (u : Value) (p : V × (Int × Int)) => RelV p.1 u ∧ R H p.1 p.2) (enc := fun p => Datum.toD p.2) false hE er' hal2
    rw [dataLe_T (fun p : V × (Int × Int) => p.2)] at he2
    obtain ⟨q1, q2⟩ := pairs_vals he2
    obtain ⟨e', he'⟩ := PyProof.Rows.sortedHeap_at (vs := acc.toList) (out := (PySem.W.sortVals (PySem.W.dataKind (PySem.W.sortingHeap (h'.push (seqObj "list" acc.toList.toArray 0)) h'.objs.size acc.toList) ((((ks.map fun (x : List Key × Addr × Value) => x.2.1).map V.ref).zip ks').map fun p => Datum.toD p.2)) false acc.toList acc.toList).toArray) hoL
    refine wpAny_pure ⟨_, rfl, .ref h'.objs.size, upd H h'.objs.size (.lst (sortV ((ks.map fun (x : List Key × Addr × Value) => x.2.1).map V.ref) ks')), I1.laid (t' := tk) (fun b u e => ?_) (Nat.le_refl _)
      (show ObjOk X.prog X.w _ _ _ (.lst _) from ⟨?_, _, e', q1, he'⟩), rfl, q _ _ hik (I1.hok.fresh (Nat.le_refl _))⟩
    · have hb : b < h'.objs.size := Heap.lt_size e
      rw [PyProof.Rows.sortedHeap_old (Nat.ne_of_lt hb) (by rw [size_push']; exact Nat.lt_succ_of_lt hb)]
      exact Heap.get?_push_of_some _ e
    · unfold sortV
      rw [List.length_map, List.length_mergeSort, List.length_zip, hlen, Nat.min_self, ← hlen, List.length_map, List.length_map]
      omega
end
end PG

set_option Elab.async false
set_option linter.all false
set_option maxRecDepth 100000
set_option maxHeartbeats 4000000
namespace PG
open PySem PySem.Spec PyProof.Rows L2
open PySem.W (T3 T4 Datum DatumOrd Holds HoldAll EachIs)

/-! ### a list of two things of two kinds -/
structure HL2 (a b : Type) where
  a : a
  b : b
  deriving DecidableEq
theorem HL2.same {a b : Type} : ∀ {p q : HL2 a b}, p.a = q.a → p.b = q.b → p = q
  | ⟨_, _⟩, ⟨_, _⟩, rfl, rfl => rfl
section
variable {α β : Type} [DecidableEq α] [Datum α] [DecidableEq β] [Datum β]
instance : Datum (HL2 α β) where
  toD p := .list [Datum.toD p.a, Datum.toD p.b]
  plain p := by simp only [PyData.plain, PyData.plainAll, Datum.plain, Bool.and_self]
  eqv p q := by
    simp only [PyData.eqv, PyData.eqvAll]
    rw [Datum.eqv, Datum.eqv, Bool.and_true, ← Bool.decide_and]
    exact decide_eq_decide.mpr ⟨fun e => HL2.same e.1 e.2, fun e => by rw [e]; exact ⟨rfl, rfl⟩⟩
  depth := max (Datum.depth α) (Datum.depth β) + 1
  depth_le p := by
    simp only [PyData.depth, PyData.depthAll]
    have h0 := Datum.depth_le p.a
    have h1 := Datum.depth_le p.b
    omega
end
instance {a b : Type} [Py a] [Py b] : Py (HL2 a b) := ⟨fun p => .list [Py.toD p.a, Py.toD p.b]⟩
section
variable {a b : Type} [Py a] [DecidableEq a] [Datum a] [IsD a] [Py b] [DecidableEq b] [Datum b] [IsD b]
instance : IsD (HL2 a b) := ⟨fun p => by show PyData.list [_, _] = PyData.list [_, _]; rw [IsD.eq, IsD.eq]⟩
end
theorem R.hl2 {a b : Type} [Py a] [Py b] {H : Hp} {p : Addr} {x : HL2 a b} {v1 v2 : V} (ha : H p = some (.lst [v1, v2])) (h1 : R H v1 x.a) (h2 : R H v2 x.b) : R H (.ref p) x := Rep.lst ha (.cons h1 (.cons h2 .nil))
/-! ### data without lists within -/
class NoL (a : Type) [Py a] : Prop where
  mv : ∀ (F F' : Hp), (∀ b xs, F b = some (.tup xs) → F' b = some (.tup xs)) → ∀ (v : V) (x : a), R F v x → R F' v x
instance : NoL Int := ⟨fun _ _ _ _ _ h => by rw [R.int_ h]; exact R.int⟩
instance : NoL Bool := ⟨fun _ _ _ _ _ h => by rw [R.bl_ h]; exact R.bl⟩
instance : NoL Str := ⟨fun _ _ _ _ _ h => by rw [R.str_ h]; exact R.str⟩
instance {a b : Type} [Py a] [Py b] [NoL a] [NoL b] : NoL (a × b) := ⟨fun _ _ t _ _ h => by
  obtain ⟨p, v1, v2, rfl, hp, h1, h2⟩ := R.t2_ h
  exact R.t2 (t _ _ hp) (NoL.mv _ _ t _ _ h1) (NoL.mv _ _ t _ _ h2)⟩
instance {a b c : Type} [Py a] [Py b] [Py c] [NoL a] [NoL b] [NoL c] : NoL (T3 a b c) := ⟨fun _ _ t _ _ h => by
  obtain ⟨p, v1, v2, v3, rfl, hp, h1, h2, h3⟩ := R.t3_ h
  exact R.t3 (t _ _ hp) (NoL.mv _ _ t _ _ h1) (NoL.mv _ _ t _ _ h2) (NoL.mv _ _ t _ _ h3)⟩
theorem RL.mv {a : Type} [Py a] [NoL a] {F F' : Hp} (t : ∀ b xs, F b = some (.tup xs) → F' b = some (.tup xs)) : ∀ {vs : List V} {xs : List a}, RL F vs xs → RL F' vs xs
  | _, [], h => by rw [RL.nil_ h]; exact RL.nil
  | _, x :: xs, h => by
    obtain ⟨w, ws, rfl, h1, h2⟩ := RL.cons_ h
    exact RL.cons (NoL.mv _ _ t _ _ h1) (RL.mv t h2)
/-! ### cells lent to a call -/
open Classical in
noncomputable def lendF (as : List Addr) (F H : Hp) : Hp := fun b => if b ∈ as then H b else F b
open Classical in
noncomputable def backF (as : List Addr) (F : Hp) : Hp := fun b => if b ∈ as then none else F b
section
variable {Z : Ent} {F F' H H' : Hp} {cs : List (Addr × HO)} {p a q : Addr} {o o' : HO} {as : List Addr}
theorem inA_nil : ∀ b ∈ ([] : List Addr), ∃ o, (b, o) ∈ cs := fun _ h => nomatch h
theorem inA_cons (i : Nat) (e : cs[i]? = some (a, o)) (h : ∀ b ∈ as, ∃ o, (b, o) ∈ cs) : ∀ b ∈ a :: as, ∃ o, (b, o) ∈ cs := fun b hb => by
  rcases List.mem_cons.mp hb with rfl | hb
  · exact ⟨o, List.mem_of_getElem? e⟩
  · exact h b hb
theorem lendF_at (h : a ∈ as) : lendF as F H a = H a := if_pos h
theorem Ow.lendS (O : Ow Z F cs H) (hin : ∀ b ∈ as, ∃ o, (b, o) ∈ cs) : Same F (lendF as F H) := fun b u e => by
  by_cases hb : b ∈ as
  · obtain ⟨o, hc⟩ := hin b hb
    have := O.cf _ hc
    have e' : F b = none := this
    rw [e'] at e; cases e
  · show (if b ∈ as then H b else F b) = _
    rw [if_neg hb]; exact e
theorem Ow.lendP (O : Ow Z F cs H) (hin : ∀ b ∈ as, ∃ o, (b, o) ∈ cs) : Pre (lendF as F H) [] H := by
  refine ⟨fun b u e => ?_, (fun _ h => nomatch h), (fun _ h => nomatch h), List.nodup_nil, fun _ h => nomatch h⟩
  have e : (if b ∈ as then H b else F b) = some u := e
  by_cases hb : b ∈ as
  · rw [if_pos hb] at e; exact e
  · rw [if_neg hb] at e; exact O.s b u e
theorem Ow.unlend (O : Ow Z F cs H) (hin : ∀ b ∈ as, ∃ o, (b, o) ∈ cs) (g : Gr [] (lendF as F H) H F' H') :
    Ow Z (backF as F') cs H' ∧ Same F (backF as F') ∧ (∀ b xs, F' b = some (.tup xs) → backF as F' b = some (.tup xs)) ∧ ∀ b, F' b = none → backF as F' b = none := by
  have inF : ∀ b, b ∉ as → ∀ u, F b = some u → F' b = some u := fun b hb u e => g.f b u (by
    show (if b ∈ as then H b else F b) = _
    rw [if_neg hb]; exact e)
  have nF : ∀ b ∈ as, F b = none := fun b hb => by obtain ⟨o, hc⟩ := hin b hb; exact O.cf _ hc
  have sF : Same F (backF as F') := fun b u e => by
    show (if b ∈ as then none else F' b) = _
    by_cases hb : b ∈ as
    · rw [nF b hb] at e; cases e
    · rw [if_neg hb]; exact inF b hb u e
  refine ⟨⟨⟨O.g.f.trans sF, fun b u e => ?_, fun b u hb e => g.k b u (fun h => nomatch h) (O.g.k b u hb e), fun b e => g.t b (O.g.t b e), fun b e => ?_, fun b xs e => ?_⟩, fun c hc => ?_, fun c hc => g.k _ _ (fun h => nomatch h) (O.ch c hc), O.nd, O.ca, O.nt⟩, sF, fun b xs e => ?_, fun b e => ?_⟩
  · have e : (if b ∈ as then none else F' b) = some u := e
    by_cases hb : b ∈ as
    · rw [if_pos hb] at e; cases e
    · rw [if_neg hb] at e; exact g.s b u e
  · show (if b ∈ as then none else F' b) = _ ∨ _
    by_cases hb : b ∈ as
    · rw [if_pos hb]
      rcases O.g.n b e with h0 | h0
      · rw [nF b hb] at h0; exact .inl h0
      · exact .inr h0
    · rw [if_neg hb]
      rcases O.g.n b e with h0 | h0
      · rcases g.n b (O.g.t b e) with h1 | ⟨xs, hx⟩
        · refine .inl (h1.trans ?_)
          show (if b ∈ as then H b else F b) = _
          rw [if_neg hb]; exact h0
        · rcases O.g.u b xs hx with z | z
          · exact absurd z e
          · exact .inr ⟨xs, z⟩
      · exact .inr h0
  · rcases g.u b xs e with z | z
    · refine .inl ?_
      cases q : Z.H b with
      | none => rfl
      | some u => exact absurd z (O.g.t b (by rw [q]; simp))
    · exact O.g.u b xs z
  · show (if c.1 ∈ as then none else F' c.1) = none
    by_cases hb : c.1 ∈ as
    · rw [if_pos hb]
    · rw [if_neg hb]
      have hl : lendF as F H c.1 = none := by
        show (if c.1 ∈ as then H c.1 else F c.1) = _
        rw [if_neg hb]; exact O.cf c hc
      exact g.none (O.ch c hc) (O.nt c hc) hl
  · show (if b ∈ as then none else F' b) = _
    by_cases hb : b ∈ as
    · obtain ⟨o, hc⟩ := hin b hb
      have h1 : lendF as F H b = some o := by
        show (if b ∈ as then H b else F b) = _
        rw [if_pos hb]; exact O.ch _ hc
      have h2 := g.f b o h1
      rw [e] at h2
      have h3 := O.nt _ hc
      have h3 : noTup o = true := h3
      rw [← Option.some.inj h2] at h3
      cases h3
    · rw [if_neg hb]; exact e
  · show (if b ∈ as then none else F' b) = _
    by_cases hb : b ∈ as
    · rw [if_pos hb]
    · rw [if_neg hb]; exact e
theorem Ow.fresh (O : Ow Z F cs H) (h : H p = none) : p ∉ cs.map (·.1) := fun hm => by
  obtain ⟨c, hc, e⟩ := List.mem_map.mp hm
  have z := O.ch c hc
  rw [e, h] at z
  cases z
theorem Ow.add' (O : Ow Z F cs H) (hm : p ∉ cs.map (·.1)) (hz : Z.H p = none) (hf : F p = none) (h : H p = some o) (ht : noTup o = true := by rfl) : Ow Z F ((p, o) :: cs) H where
  g := O.g
  cf := fun c hc => by
    rcases List.mem_cons.mp hc with rfl | hc
    · exact hf
    · exact O.cf c hc
  ch := fun c hc => by
    rcases List.mem_cons.mp hc with rfl | hc
    · exact h
    · exact O.ch c hc
  nd := by
    rw [List.map_cons, List.nodup_cons]
    exact ⟨hm, O.nd⟩
  ca := fun c hc => by
    rcases List.mem_cons.mp hc with rfl | hc
    · exact .inr hz
    · exact O.ca c hc
  nt := fun c hc => by
    rcases List.mem_cons.mp hc with rfl | hc
    · exact ht
    · exact O.nt c hc
theorem Ow.ne (O : Ow Z F cs H) (i j : Nat) (hij : i ≠ j) (ei : cs[i]? = some (a, o)) (ej : cs[j]? = some (q, o')) : a ≠ q := fun e => by
  subst e
  have h1 : (cs.map (·.1))[i]? = some a := by rw [List.getElem?_map, ei]; rfl
  have h2 : (cs.map (·.1))[j]? = some a := by rw [List.getElem?_map, ej]; rfl
  exact hij (nd_ix O.nd h1 h2)
end
theorem nmem2 {p q : Addr} {l : List Addr} (h : p ≠ q) (h2 : p ∉ l) : p ∉ q :: l := fun m => by
  rcases List.mem_cons.mp m with e | m
  · exact h e
  · exact h2 m
/-! ### while -/
inductive Ws (s r : Type) where
  | go (x : s)
  | stop (x : s)
  | rt (z : r)
def whL {s r : Type} (b : s → M (Ws s r)) : Nat → s → M (Fl s r)
  | 0, _ => bad
  | n + 1, x => b x >>= fun
    | .go x' => whL b n x'
    | .stop x' => .ok (.nx x')
    | .rt z => .ok (.rt z)
theorem whL_L {s r a : Type} {Q : a → Prop} {E : String → Prop} {b : s → M (Ws s r)} {n : Nat} {x : s} {k : Fl s r → M a} (h : wp (whL b n x >>= k) Q E) :
    ∃ (L : Nat → s → Prop) (X : s → Prop), L n x ∧ (∀ m x, L m x → wp (b x) (fun w => match w with
      | .go x' => ∃ m', m' < m ∧ L m' x'
      | .stop x' => X x'
      | .rt z => wp (k (.rt z)) Q E) E) ∧ ∀ x, X x → wp (k (.nx x)) Q E := by
  refine ⟨fun n x => wp (whL b n x >>= k) Q E, fun x => wp (k (.nx x)) Q E, h, fun m x hx => ?_, fun x hx => hx⟩
  cases m with
  | zero => exact hx.elim
  | succ m =>
    have hx : wp ((b x >>= fun
      | .go x' => whL b m x'
      | .stop x' => .ok (.nx x')
      | .rt z => .ok (.rt z)) >>= k) Q E := hx
    rw [wp_bind, wp_bind] at hx
    cases e : b x with
    | error e2 => rw [e] at hx; cases e2 <;> exact hx
    | ok w =>
      rw [e] at hx
      cases w with
      | go x' => exact ⟨m, Nat.lt_succ_self m, wp_bind.mpr hx⟩
      | stop x' => exact hx
      | rt z => exact hx
theorem while_P {c : TT} {tb : TS} {D : Ends} {σ : L2.St} {H : Hp} (W : Nat → L2.St → Hp → Prop) (X : L2.St → Hp → Prop) (n : Nat) (h0 : W n σ H) (exit : ∀ σ H, X σ H → D.nx σ H)
    (turn : (∀ σ H, X σ H → D.nx σ H) → ∀ m σ H, W m σ H → c σ H fun b H1 => if b = true then ∃ N : L2.St → Hp → Prop, (∀ σ' H', N σ' H' → ∃ m', m' < m ∧ W m' σ' H') ∧ tb { D with nx := N, ct := N, bk := D.nx } σ H1 else D.nx σ H1) : tWhile c tb D σ H :=
  ⟨W, ⟨n, h0⟩, turn exit⟩
/-! ### a < b < c < d -/
section
variable {X : Cx} {a b c d : Expr} {ta tb tc td : TE} {pos : Pos}
def tChain3 (r r' r'' : R2) (ta tb tc td : TE) : TE := fun σ H Q => ta σ H fun x H1 => tb σ H1 fun y H2 => r x y H2 fun z H3 => ∃ k, z = .bl k ∧
  (if k = true then tc σ H3 fun w' H4 => r' y w' H4 fun z' H5 => ∃ k', z' = .bl k' ∧ (if k' = true then td σ H5 fun u' H6 => r'' w' u' H6 Q else Q (.bl false) H5) else Q (.bl false) H3)
theorem pt_chain3 {op op' op'' : CmpOp} {r r' r'' : R2} (ho : OpR X (compareOp op) r) (ho' : OpR X (compareOp op') r') (ho'' : OpR X (compareOp op'') r'') (ha : PE X a ta) (hb : PE X b tb) (hc : PE X c tc) (hd : PE X d td)
    (hm : lastMarks [op, op', op''] [b, c, d] = false := by with_unfolding_all rfl) : PT X (.Compare a [op, op', op''] [b, c, d] pos) (tTest (tChain3 r r' r'' ta tb tc td)) := by
  refine ⟨fun pins s σ H Q I h => ?_⟩
  refine isTrue_chain (thn (ha.run pins s σ H _ I h) fun v s1 ⟨x, H1, I1, r1, q1⟩ => test_link (thn (hb.run pins s1 σ H1 _ I1 q1) fun u s2 ⟨y, H2, I2, r2, q2⟩ =>
    thn (ho pins s2 σ H2 x y v u _ I2 r1 r2 q2) fun d1 s3 ⟨z, H3, I3, r3, k, e, q3⟩ => ?_)) hm
  subst e
  cases r3
  refine wpAny_truthy_bool ?_
  cases k with
  | false =>
    obtain ⟨k', e', q'⟩ := q3
    cases e'
    exact ite_ff ⟨H3, I3, q'⟩
  | true =>
    refine ite_tt (test_link (thn (hc.run pins s3 σ H3 _ I3 q3) fun w' s4 ⟨z', H4, I4, r4, q4⟩ => thn (ho' pins s4 σ H4 y z' u w' _ I4 r2 r4 q4) fun d2 s5 ⟨z2, H5, I5, r5, k2, e2, q5⟩ => ?_))
    subst e2
    cases r5
    refine wpAny_truthy_bool ?_
    cases k2 with
    | false =>
      obtain ⟨k', e', q'⟩ := q5
      cases e'
      exact ite_ff ⟨H5, I5, q'⟩
    | true =>
      refine ite_tt (test_last (thn (hd.run pins s5 σ H5 _ I5 q5) fun u' s6 ⟨z3, H6, I6, r6, q6⟩ => thn (ho'' pins s6 σ H6 z' z3 w' u' _ I6 r4 r6 q6) fun d3 s7 ⟨z4, H7, I7, r7, k3, e3, q7⟩ => ?_))
      subst e3
      cases r7
      exact wpAny_truthy_bool ⟨H7, I7, q7⟩
end
/-! ### list.index of whole numbers -/
def ixI (xs : List Int) (y : Int) : M Int := if y ∈ xs then .ok ((xs.findIdx (· == y) : Nat) : Int) else bad
theorem wp_ixI {a : Type} {Q : a → Prop} {E : String → Prop} {xs : List Int} {y : Int} {k : Int → M a} (h : wp (ixI xs y >>= k) Q E) : ∃ j, xs.findIdx (· == y) = j ∧ xs[j]? = some y ∧ (∀ (m : Nat) z, m < j → xs[m]? = some z → z ≠ y) ∧ wp (k (j : Int)) Q E := by
  unfold ixI at h
  by_cases hm : y ∈ xs
  · rw [if_pos hm] at h
    have hlt : xs.findIdx (· == y) < xs.length := List.findIdx_lt_length_of_exists ⟨y, hm, by simp⟩
    refine ⟨_, rfl, ?_, fun m z hmj hz e => ?_, h⟩
    · rw [List.getElem?_eq_getElem hlt]
      have := List.findIdx_getElem (w := hlt)
      rw [eq_of_beq this]
    · have := List.not_of_lt_findIdx hmj
      obtain ⟨hl, hz⟩ := List.getElem?_eq_some_iff.mp hz
      rw [hz, e] at this
      simp at this
  · rw [if_neg hm] at h; exact h.elim
theorem all_flat_int : ∀ xs : List Int, (xs.map V.int).all flatV = true
  | [] => rfl
  | x :: xs => by rw [List.map_cons, List.all_cons, all_flat_int xs]; rfl
theorem int_noeq {xs : List Int} {y : Int} {j : Nat} (h : ∀ (m : Nat) z, m < j → xs[m]? = some z → z ≠ y) : ∀ (m : Nat) (z' : V), m < j → (xs.map V.int)[m]? = some z' → eqV z' (.int y) = false := fun m z' hm hz => by
  rw [List.getElem?_map] at hz
  cases e : xs[m]? with
  | none => rw [e] at hz; cases hz
  | some z =>
    rw [e] at hz
    have hz : V.int z = z' := Option.some.inj hz
    subst hz
    have := h m z hm e
    show (z == y) = false
    simpa using this
theorem int_at {xs : List Int} {y : Int} {j : Nat} (h : xs[j]? = some y) : (xs.map V.int)[j]? = some (.int y) := by rw [List.getElem?_map, h]; rfl
theorem int_eq {y : Int} : eqV (.int y) (.int y) = true := by show (y == y) = true; simp
/-! ### dict(list of pairs), the keys whole numbers -/
section
variable {β : Type} [Py β] {F H : Hp}
def mergeD (xs : List (Int × β)) : List (Int × β) := xs.foldl (fun acc p => dPut acc p.1 p.2) []
theorem merge_rd {kvs : List (Key × V)} {xs : List (Int × β)} (hs : RD F kvs xs) : ∀ {acc : List (Key × V)} {ac : List (Int × β)}, RD F acc ac → RD F (mergeK acc kvs) (xs.foldl (fun acc p => dPut acc p.1 p.2) ac) := by
  induction hs with
  | nil => intro acc ac h; exact h
  | @cons k v y kvs xs hv _ ih =>
    intro acc ac h
    exact ih (h.put k hv)
theorem pairs_of_rl {K : PySem.W.Frag} (s : Same F H) : ∀ {vs : List V} {xs : List (Int × β)}, RL F vs xs → ∃ (ps : List Addr) (kvs : List (Key × V)), vs = ps.map V.ref ∧ Paired (fun p kv => SqT K H p [kV kv.1, kv.2]) ps kvs ∧ RD F kvs xs
  | _, [], h => ⟨[], [], RL.nil_ h, .nil, .nil⟩
  | _, x :: xs, h => by
    obtain ⟨w, ws, rfl, h1, h2⟩ := RL.cons_ h
    obtain ⟨ps, kvs, e, hp, hr⟩ := pairs_of_rl (K := K) s h2
    obtain ⟨p, v1, v2, rfl, hp1, h3, h4⟩ := R.t2_ h1
    rw [R.int_ h3] at hp1
    exact ⟨p :: ps, (.inl x.1, v2) :: kvs, by rw [e]; rfl, .cons (SqT.of (s _ _ hp1)) hp, .cons (k := x.1) h4 hr⟩
end
/-! ### the same rules, the fragment told outright (within a comprehension) -/
section
variable {X : Cx} {K : PySem.W.Frag}
theorem ixTupK (h : X.K = K) : IxR X (rIxT K) := by rw [← h]; exact ix_tup
theorem ixListK (h : X.K = K) : IxR X (rIxL K) := by rw [← h]; exact ix_list
theorem listOfK (h : X.K = K) : CallR X (.type "list") (fun xs H Q => ∃ p ys, xs = [.ref p] ∧ (SqL K H p ys ∨ SqT K H p ys) ∧ ∀ l, H l = none → Q (.ref l) (upd H l (.lst ys))) := by rw [← h]; exact call_list_of
theorem isiK (h : X.K = K) : CallR X (.builtin "isinstance") (rIsi K) := by rw [← h]; exact call_isi
theorem slListK (h : X.K = K) : SlR X (rSlL K) := by rw [← h]; exact sl_list
theorem indexK (h : X.K = K) : MtR X "list.index" (rIndex K) := by rw [← h]; exact mt_index
end
/-! ### enumerate in a comprehension -/
def enumL {b : Type} (xs : List b) : List (Int × b) := xs.zipIdx.map fun p => ((p.2 : Int), p.1)
theorem enumL_get {b : Type} {xs : List b} {i : Nat} {x : b} (h : xs[i]? = some x) : (enumL xs).drop i = ((i : Int), x) :: (enumL xs).drop (i + 1) := by
  apply drop_at
  unfold enumL
  rw [List.getElem?_map, List.getElem?_zipIdx, h]
  simp
theorem enumL_len {b : Type} {xs : List b} : (enumL xs).length = xs.length := by unfold enumL; simp
theorem enumL_end {b : Type} {xs : List b} {vs : List V} (h : vs.length = xs.length) : (enumL xs).drop vs.length = [] := by
  rw [h, ← enumL_len, List.drop_length]
theorem comp_lenE {b : Type} {w vs : List V} {xs : List b} {i : Nat} (la : w.length ≤ i) (hi : i < vs.length) (hl : vs.length = xs.length) (c : (enumL xs).length < 16777216) : w.length < sizeLine := by
  rw [enumL_len] at c
  exact lt_line (by omega)
theorem zip_at {a b : Type} {xs : List a} {ys : List b} {i : Nat} {x : a} {y : b} (h : xs[i]? = some x) (h2 : ys[i]? = some y) : (xs.zip ys).drop i = (x, y) :: (xs.zip ys).drop (i + 1) := by
  apply drop_at
  rw [List.getElem?_zip_eq_some]
  exact ⟨h, h2⟩
theorem zip_end {a b : Type} {xs : List a} {ys : List b} {vs ws : List V} (h : vs.length = xs.length) (h2 : ws.length = ys.length) : (xs.zip ys).drop (min vs.length ws.length) = [] := by
  rw [h, h2, ← List.length_zip, List.drop_length]
theorem comp_lenZ {a b : Type} {w vs ws : List V} {xs : List a} {ys : List b} {i : Nat} (la : w.length ≤ i) (hi : i < min vs.length ws.length) (h : vs.length = xs.length) (h2 : ws.length = ys.length) (c : (xs.zip ys).length < 16777216) : w.length < sizeLine := by
  rw [List.length_zip, ← h, ← h2] at c
  exact lt_line (by omega)
section
variable {X : Cx} {K : PySem.W.Frag}
theorem cr_sumK (hc : X.calm = true) (h : X.K = K) : CallR X (.builtin "sum") (rSum K) := by rw [← h]; exact cr_sum hc
end
end PG

set_option Elab.async false
set_option linter.all false
set_option maxRecDepth 100000
set_option maxHeartbeats 4000000
namespace PG
open PySem PySem.Spec PyProof.Rows L2
open PySem.W (T3 T4 Datum DatumOrd Holds HoldAll EachIs)
/-! ### sums: ("number", n), (word, n), (word,), (word, a, b) -/
inductive Sm where
  | num (w : Str) (n : Int)
  | nam (w : Str)
  | two (w : Str) (a b : Sm)
  deriving DecidableEq
def Sm.d : Sm → PyData
  | .num w n => .tuple [.str w, .int n]
  | .nam w => .tuple [.str w]
  | .two w a b => .tuple [.str w, a.d, b.d]
instance : Py Sm := ⟨Sm.d⟩
def Sm.word : Sm → Str
  | .num w _ => w
  | .nam w => w
  | .two w _ _ => w
def Sm.int? : Sm → Option Int
  | .num _ n => some n
  | _ => none
def Sm.two? : Sm → Option (Sm × Sm)
  | .two _ a b => some (a, b)
  | _ => none
section
variable {F : Hp} {v : V} {p : Addr} {x : Sm}
theorem R.sm_ (h : R F v x) : ∃ p ws, v = .ref p ∧ F p = some (.tup (V.str x.word :: ws)) := by
  cases x with
  | num w n =>
    obtain ⟨p, v1, v2, e, hp, h1, h2⟩ := R.t2_ (show R (a := Str × Int) F v (w, n) from h)
    rw [R.str_ h1] at hp
    exact ⟨p, [v2], e, hp⟩
  | nam w =>
    have h' : Rep F v (.tuple [.str w]) := h
    cases h' with
    | tup ha hs =>
      cases hs with
      | cons h1 hs =>
        cases hs
        cases h1
        exact ⟨_, _, rfl, ha⟩
  | two w a b =>
    obtain ⟨p, v1, v2, v3, e, hp, h1, h2, h3⟩ := R.t3_ (show R (a := T3 Str Sm Sm) F v ⟨w, a, b⟩ from h)
    rw [R.str_ h1] at hp
    exact ⟨p, [v2, v3], e, hp⟩
theorem R.sm_int {n : Int} (h : R F v x) (e : x.int? = some n) : ∃ p w, v = .ref p ∧ F p = some (.tup [V.str w, V.int n]) := by
  cases x with
  | num w m =>
    obtain ⟨p, v1, v2, e1, hp, h1, h2⟩ := R.t2_ (show R (a := Str × Int) F v (w, m) from h)
    rw [R.str_ h1, R.int_ h2] at hp
    have e : some m = some n := e
    cases e
    exact ⟨p, w, e1, hp⟩
  | nam w => cases e
  | two w a b => cases e
theorem R.sm_two {q : Sm × Sm} (h : R F v x) (e : x.two? = some q) : ∃ p w va vb, v = .ref p ∧ F p = some (.tup [V.str w, va, vb]) ∧ R F va q.1 ∧ R F vb q.2 := by
  cases x with
  | num w m => cases e
  | nam w => cases e
  | two w a b =>
    obtain ⟨p, v1, v2, v3, e1, hp, h1, h2, h3⟩ := R.t3_ (show R (a := T3 Str Sm Sm) F v ⟨w, a, b⟩ from h)
    rw [R.str_ h1] at hp
    have e : some (a, b) = some q := e
    cases e
    exact ⟨p, w, v2, v3, e1, hp, h2, h3⟩
theorem R.of_num {q : Str × Int} (h : R F v q) : R F v (Sm.num q.1 q.2) := h
theorem R.of_two {q : T3 Str Sm Sm} (h : R F v q) : R F v (Sm.two q.a q.b q.c) := h
theorem R.of_nam {w : Str} (h : F p = some (.tup [V.str w])) : R F (.ref p) (Sm.nam w) := Rep.tup h (.cons (.str w) .nil)
end
/-! ### a whole number or a list of such -/
inductive IL where
  | i (n : Int)
  | l (xs : List Int)
instance : Py IL := ⟨fun
  | .i n => Py.toD n
  | .l xs => Py.toD xs⟩
def IL.i? : IL → Option Int
  | .i n => some n
  | _ => none
def IL.l? : IL → Option (List Int)
  | .l xs => some xs
  | _ => none
section
variable {F : Hp} {v : V}
theorem R.il_i {x : IL} {n : Int} (h : R F v x) (e : x.i? = some n) : R F v n := by
  cases x with
  | i m => have e : some m = some n := e; cases e; exact h
  | l xs => cases e
theorem R.il_l {x : IL} {xs : List Int} (h : R F v x) (e : x.l? = some xs) : R F v xs := by
  cases x with
  | i m => cases e
  | l ys => have e : some ys = some xs := e; cases e; exact h
theorem R.of_i {n : Int} (h : R F v n) : R F v (IL.i n) := h
theorem R.of_l {xs : List Int} (h : R F v xs) : R F v (IL.l xs) := h
end
section
variable {β : Type} [Py β] {F : Hp}
def mergeDS (xs : List (Str × β)) : List (Str × β) := xs.foldl (fun acc p => dPut acc p.1 p.2) []
theorem merge_rdS {kvs : List (Key × V)} {xs : List (Str × β)} (hs : RD F kvs xs) : ∀ {acc : List (Key × V)} {ac : List (Str × β)}, RD F acc ac → RD F (mergeK acc kvs) (xs.foldl (fun acc p => dPut acc p.1 p.2) ac) := by
  induction hs with
  | nil => intro acc ac h; exact h
  | @cons k v y kvs xs hv _ ih =>
    intro acc ac h
    exact ih (h.put k hv)
end
section
variable {X : Cx} {K : PySem.W.Frag} {pos : Pos}
theorem slTupK (h : X.K = K) : SlR X (rSlT K) := by rw [← h]; exact sl_tup
theorem pgLstK (h : X.K = K) {es : List Expr} {k : Nat} {t : TGs} {n : Nat} (hc : X.calm = true) (hp : PGs X es t)
    (hn : (assignEach es X.env).length = n := by rfl) (hst : (assignEach es X.env).findIdx? (·.1) = none := by rfl) : PG X (.Tuple es k pos) (gLst K n t) := by rw [← h]; exact pg_lst hc hp hn hst
end
theorem RL.two {a : Type} [Py a] {F : Hp} {vs : List V} {xs : List a} (h : RL F vs xs) (e : xs.length = 2) : ∃ v1 v2 x1 x2, vs = [v1, v2] ∧ xs = [x1, x2] ∧ R F v1 x1 ∧ R F v2 x2 := by
  match xs, e with
  | [x1, x2], _ =>
    obtain ⟨w, ws, rfl, h1, h2⟩ := RL.cons_ h
    obtain ⟨w2, ws2, rfl, h3, h4⟩ := RL.cons_ h2
    rw [RL.nil_ h4]
    exact ⟨w, w2, x1, x2, rfl, rfl, h1, h3⟩
/-- a list of just two -/
def two2 {a : Type} (xs : List a) : M (a × a) := match xs with
  | [x, y] => .ok (x, y)
  | _ => bad
theorem wp_two2 {a b : Type} {Q : a → Prop} {E : String → Prop} {xs : List b} {k : b × b → M a} (h : wp (two2 xs >>= k) Q E) : ∃ x y, xs = [x, y] ∧ wp (k (x, y)) Q E := by
  match xs, h with
  | [x, y], h => exact ⟨x, y, rfl, h⟩
  | [], h => exact h.elim
  | [_], h => exact h.elim
  | _ :: _ :: _ :: _, h => exact h.elim
theorem sl3 (a b c : V) : ¬ (HT.sIx [a, b, c].length 0 (some (1 : Int)) = 0 ∧ HT.sIx [a, b, c].length [a, b, c].length none = [a, b, c].length) := fun h => absurd h.1 (by show ¬ (HT.sIx 3 0 (some (1 : Int)) = 0); decide)
theorem intB {X : Cx} : CallR X (.type "int") (fun xs H Q => ∃ k, xs = [.bl k] ∧ Q (.int (if k then 1 else 0)) H) := fun pins s σ H xs us Q I r h => call_int1 pins s σ H xs us Q I r (.inr h)
theorem atI0 {a : Type} (x : a) (xs : List a) : L2.atI (x :: xs) (0 : Int) = some x := by
  unfold L2.atI ixN
  rw [if_pos (by omega), if_pos (by rw [List.length_cons]; omega)]
  rfl
end PG

set_option Elab.async false
set_option linter.all false
set_option maxRecDepth 100000
set_option maxHeartbeats 4000000
namespace PG
open PySem PySem.Spec PyProof.Rows L2
open PySem.W (T3 T4 Datum DatumOrd Holds HoldAll EachIs)
/-! ### == of data of any depth, the depth asked outright -/
class DatumX (a : Type) [Py a] [DecidableEq a] : Prop where
  plain : ∀ x : a, (Py.toD x).plain = true
  eqv : ∀ x y : a, PyData.eqv (Py.toD x) (Py.toD y) = decide (x = y)
instance (priority := 50) {a : Type} [Py a] [DecidableEq a] [Datum a] [IsD a] : DatumX a := ⟨fun x => by rw [IsD.eq]; exact Datum.plain x, fun x y => by rw [IsD.eq, IsD.eq]; exact Datum.eqv x y⟩
theorem Sm.pl : ∀ x : Sm, x.d.plain = true
  | .num w n => by simp [Sm.d, PyData.plain, PyData.plainAll]
  | .nam w => by simp [Sm.d, PyData.plain, PyData.plainAll]
  | .two w a b => by simp [Sm.d, PyData.plain, PyData.plainAll, Sm.pl a, Sm.pl b]
theorem ev23 (w w' : Str) (n : PyData) (x y : PyData) : PyData.eqv (.tuple [.str w, n]) (.tuple [.str w', x, y]) = false := by simp [PyData.eqv, PyData.eqvAll]
theorem ev32 (w w' : Str) (n : PyData) (x y : PyData) : PyData.eqv (.tuple [.str w', x, y]) (.tuple [.str w, n]) = false := by simp [PyData.eqv, PyData.eqvAll]
theorem ev13 (w w' : Str) (x y : PyData) : PyData.eqv (.tuple [.str w]) (.tuple [.str w', x, y]) = false := by simp [PyData.eqv, PyData.eqvAll]
theorem ev31 (w w' : Str) (x y : PyData) : PyData.eqv (.tuple [.str w', x, y]) (.tuple [.str w]) = false := by simp [PyData.eqv, PyData.eqvAll]
theorem Sm.ev : ∀ x y : Sm, PyData.eqv x.d y.d = decide (x = y)
  | .num w n, .num w' n' => by
    simp only [Sm.d, PyData.eqv, PyData.eqvAll, Bool.and_true]
    rw [PySem.W.beq_decide, PySem.W.beq_decide, ← Bool.decide_and]
    exact decide_eq_decide.mpr (by rw [Sm.num.injEq])
  | .num w n, .nam w' => by simp [Sm.d, PyData.eqv, PyData.eqvAll]
  | .num w n, .two w' a b => (ev23 w w' (.int n) a.d b.d).trans (by simp)
  | .nam w, .num w' n => by simp [Sm.d, PyData.eqv, PyData.eqvAll]
  | .nam w, .nam w' => by
    simp only [Sm.d, PyData.eqv, PyData.eqvAll, Bool.and_true]
    rw [PySem.W.beq_decide]
    exact decide_eq_decide.mpr (by rw [Sm.nam.injEq])
  | .nam w, .two w' a b => (ev13 w w' a.d b.d).trans (by simp)
  | .two w a b, .num w' n => (ev32 w' w (.int n) a.d b.d).trans (by simp)
  | .two w a b, .nam w' => (ev31 w' w a.d b.d).trans (by simp)
  | .two w a b, .two w' a' b' => by
    simp only [Sm.d, PyData.eqv, PyData.eqvAll, Bool.and_true]
    rw [PySem.W.beq_decide, Sm.ev a a', Sm.ev b b', ← Bool.decide_and, ← Bool.decide_and]
    exact decide_eq_decide.mpr (by rw [Sm.two.injEq])
instance : DatumX Sm := ⟨Sm.pl, Sm.ev⟩
section
variable {a b c d : Type} [Py a] [DecidableEq a] [DatumX a] [Py b] [DecidableEq b] [DatumX b] [Py c] [DecidableEq c] [DatumX c] [Py d] [DecidableEq d] [DatumX d]
theorem plainX : ∀ xs : List a, PyData.plainAll (xs.map Py.toD) = true
  | [] => rfl
  | x :: xs => by
    rw [List.map_cons, PyData.plainAll, DatumX.plain x, plainX xs]
    rfl
theorem eqvX : ∀ xs ys : List a, PyData.eqvAll (xs.map Py.toD) (ys.map Py.toD) = decide (xs = ys)
  | [], [] => by simp only [List.map_nil, PyData.eqvAll, decide_true]
  | [], _ :: _ => by simp [PyData.eqvAll]
  | _ :: _, [] => by simp [PyData.eqvAll]
  | x :: xs, y :: ys => by
    rw [List.map_cons, List.map_cons, PyData.eqvAll, DatumX.eqv x y, eqvX xs ys, ← Bool.decide_and]
    exact decide_eq_decide.mpr (by rw [List.cons.injEq])
instance : DatumX (List a) := ⟨fun xs => by show PyData.plain (.list (xs.map Py.toD)) = true; simp only [PyData.plain]; exact plainX xs, fun xs ys => by show PyData.eqv (.list (xs.map Py.toD)) (.list (ys.map Py.toD)) = _; simp only [PyData.eqv]; exact eqvX xs ys⟩
theorem T4.sm {p q : T4 a b c d} : p = q ↔ p.a = q.a ∧ p.b = q.b ∧ p.c = q.c ∧ p.d = q.d := by
  cases p; cases q
  simp
instance : DatumX (T4 a b c d) := ⟨fun p => by show PyData.plain (.tuple [_, _, _, _]) = true; simp only [PyData.plain, PyData.plainAll, DatumX.plain, Bool.and_self], fun p q => by
  show PyData.eqv (.tuple [_, _, _, _]) (.tuple [_, _, _, _]) = _
  simp only [PyData.eqv, PyData.eqvAll]
  rw [DatumX.eqv, DatumX.eqv, DatumX.eqv, DatumX.eqv, Bool.and_true, ← Bool.decide_and, ← Bool.decide_and, ← Bool.decide_and]
  exact decide_eq_decide.mpr T4.sm.symm⟩
end
def dep {a : Type} [Py a] (x : a) : Nat := (Py.toD x).depth
section
variable {X : Cx} (a : Type) [Py a] [DecidableEq a] [DatumX a]
def rEqX : R2 := fun x y H Q => ∃ p q : a, R H x p ∧ R H y q ∧ min (dep p) (dep q) ≤ 60 ∧ Q (.bl (decide (p = q))) H
def rNeX : R2 := fun x y H Q => ∃ p q : a, R H x p ∧ R H y q ∧ min (dep p) (dep q) ≤ 60 ∧ Q (.bl (decide (p ≠ q))) H
theorem op_eqX (hu : X.A.units + 64 < cLine) : OpR X (compareOp .Eq) (rEqX a) := by
  intro pins s σ H x y v u Q I rx ry h
  obtain ⟨p, q, hp, hq, hd, k⟩ := h
  obtain ⟨as, ra⟩ := Dp.reads I _ _ _ (Rep.dp _ _ hp) rx
  obtain ⟨bs, rb⟩ := Dp.reads I _ _ _ (Rep.dp _ _ hq) ry
  have hd' : min (Py.toD p).depth (Py.toD q).depth ≤ 60 := hd
  exact PySem.SeqAt.eq_plain ra rb (DatumX.plain p) (DatumX.plain q) (by omega) (by rw [DatumX.eqv p q]; exact ⟨.bl _, H, I, rfl, k⟩)
theorem op_neX (hu : X.A.units + 64 < cLine) : OpR X (compareOp .NotEq) (rNeX a) := by
  intro pins s σ H x y v u Q I rx ry h
  obtain ⟨p, q, hp, hq, hd, k⟩ := h
  obtain ⟨as, ra⟩ := Dp.reads I _ _ _ (Rep.dp _ _ hp) rx
  obtain ⟨bs, rb⟩ := Dp.reads I _ _ _ (Rep.dp _ _ hq) ry
  have hd' : min (Py.toD p).depth (Py.toD q).depth ≤ 60 := hd
  exact PySem.SeqAt.ne_plain ra rb (DatumX.plain p) (DatumX.plain q) (by omega) (by rw [DatumX.eqv p q, ← decide_not]; exact ⟨.bl _, H, I, rfl, k⟩)
end
/-! ### a tuple of things of one kind, of any length -/
structure Tp (a : Type) where
  l : List a
instance {a : Type} [Py a] : Py (Tp a) := ⟨fun t => .tuple (t.l.map Py.toD)⟩
section
variable {a : Type} [Py a] {F : Hp} {v : V}
theorem R.tp_ {x : Tp a} (h : R F v x) : ∃ p vs, v = .ref p ∧ F p = some (.tup vs) ∧ RL F vs x.l := by
  have h' : Rep F v (.tuple (x.l.map Py.toD)) := h
  cases h' with
  | tup ha hs => exact ⟨_, _, rfl, ha, hs⟩
theorem R.tp2 {q : a × a} (h : R F v q) : R F v (Tp.mk [q.1, q.2]) := h
theorem R.tp3 {q : T3 a a a} (h : R F v q) : R F v (Tp.mk [q.a, q.b, q.c]) := h
theorem R.tp1 {w : Str} (h : R F v (Sm.nam w)) : R F v (Tp.mk [w]) := h
end
end PG

set_option Elab.async false
set_option linter.all false
set_option maxRecDepth 100000
set_option maxHeartbeats 4000000
namespace PG
open PySem PySem.Spec PyProof.Rows L2
open PySem.W (T3 T4 Datum DatumOrd Holds HoldAll EachIs)
/-! ### dict(a list of pairs), the keys tuples -/
def mergeT (kvs more : List (List Key × V)) : List (List Key × V) := more.foldl (fun m q => putK m q.1 q.2) kvs
theorem mergeT_kt {H : Hp} {kvs : List (List Key × V)} {xs : List (List Key × Addr × Value)} (r : KT H kvs xs) : ∀ {m : List (List Key × V)} {ms : List (List Key × Addr × Value)}, KT H m ms →
    KT H (mergeT m kvs) (storedAllH ms xs) := by
  induction r with
  | nil => intro m ms h; exact h
  | @cons p q ps qs h t ih =>
    intro m ms hm
    obtain ⟨e, hb, rv⟩ := h
    have := ih (KT.put hm q.1 (b := q.2.1) (by rw [← e]; exact hb) rv)
    unfold mergeT storedAllH at *
    rw [List.foldl_cons, List.foldl_cons, e]
    exact this
def PairT (K : PySem.W.Frag) (H : Hp) (p : Addr × Addr) (q : List Key × V) : Prop := SqT K H p.1 [.ref p.2, q.2] ∧ H p.2 = some (.tup (q.1.map kV))
theorem kt_at {H : Hp} {kvs : List (List Key × V)} {xs : List (List Key × Addr × Value)} (r : KT H kvs xs) : ∀ x ∈ xs, H x.2.1 = some (.tup (x.1.map kV)) := by
  induction r with
  | nil => exact fun x hx => nomatch hx
  | cons h _ ih => intro x hx; rcases List.mem_cons.mp hx with rfl | hx; · rw [← h.1]; exact h.2.1
                   · exact ih x hx
theorem ne_of_none {H : Hp} {b c : Addr} {o : HO} (e : H c = some o) (n : H b = none) : c ≠ b := fun z => by rw [z, n] at e; exact nomatch e
section
variable {X : Cx}
theorem tripT {pins : List (Addr × Obj)} {σ : L2.St} {H : Hp} {s : Shared} (I : Inv X pins σ H s) {ps : List (Addr × Addr)} {kvs : List (List Key × V)} (h : Paired (PairT X.K H) ps kvs) :
    ∃ xs : List (List Key × Addr × Value), KT H kvs xs ∧ xs.length = ps.length ∧ ∀ (j : Nat) q, xs[j]? = some q → ∃ b, ps[j]? = some b ∧ b.2 = q.2.1 ∧ IsTup s.heap b.1 #[.ref q.2.1, q.2.2] := by
  induction h with
  | nil => exact ⟨[], .nil, rfl, fun j q e => by simp at e⟩
  | @cons p kv ps' kvs' h t ih =>
    obtain ⟨xs, r, hl, hx⟩ := ih
    obtain ⟨h1, h2⟩ := h
    obtain ⟨its, rv, ht, _⟩ := I.tuple h1
    obtain ⟨u, y, ei, ru, ry⟩ := vals2 rv
    subst ei
    cases ru
    refine ⟨(kv.1, p.2, y) :: xs, .cons ⟨rfl, h2, ry⟩ r, by simp [hl], fun j q e => ?_⟩
    cases j with
    | zero =>
      have e' : (kv.1, p.2, y) = q := Option.some.inj e
      subst e'
      exact ⟨p, rfl, rfl, ht⟩
    | succ j => exact (hx j q (by simpa using e)).imp fun b z => ⟨by simpa using z.1, z.2⟩
theorem refs_pT : ∀ {ps : List (Addr × Addr)} {us : List Value}, Vals (ps.map fun p => V.ref p.1) us → us = ps.map fun p => Value.ref p.1
  | [], us, r => by rw [List.map_nil] at r; cases r; rfl
  | p :: ps, us, r => by
    rw [List.map_cons] at r
    cases r with
    | cons h t => cases h; rw [List.map_cons, ← refs_pT t]
theorem call_dictT (hcalm : X.calm = true) (hu : X.A.units + 64 < cLine) : CallR X (.type "dict") (fun xs H Q => ∃ (a : Addr) (ps : List (Addr × Addr)) (kvs : List (List Key × V)), xs = [.ref a] ∧
    SqL X.K H a (ps.map fun p => V.ref p.1) ∧ Paired (PairT X.K H) ps kvs ∧ ∀ p, H p = none → Q (.ref p) (upd H p (.dT (mergeT [] kvs)))) := by
  intro pins s σ H zs us Q I r q
  obtain ⟨a, ps, kvs, ez, hq, hp, q⟩ := q
  subst ez
  obtain ⟨u, eu, rx⟩ := vals1 r
  subst eu
  cases rx
  obtain ⟨its, rv, pl, hz⟩ := I.list hq
  have ei := refs_pT rv
  subst ei
  obtain ⟨xs, rel, hl, hx⟩ := tripT I hp
  obtain ⟨o, n, ho, hc, hd, hdat⟩ := pl
  have hz' : ps.length ≤ sizeLine := by simpa using hz
  have hkey : ∀ x ∈ xs, (tupleKind (mixKind X.prog X.w)).is s.heap x.1 x.2.1 := fun x hxm => key_of I.hok (kt_at rel x hxm)
  have hps : ∀ (j : Nat) (k v : Value), (xs.map fun x => (Value.ref x.2.1, x.2.2))[j]? = some (k, v) → ∃ q, xs[j]? = some q ∧ k = .ref q.2.1 ∧ v = q.2.2 := fun j k v e => by
    rw [List.getElem?_map] at e
    cases hq' : xs[j]? with
    | none => rw [hq'] at e; exact nomatch e
    | some q' => rw [hq'] at e; cases e; exact ⟨q', rfl, rfl, rfl⟩
  refine call_dict_pairsH (knd := tupleKind (mixKind X.prog X.w)) (ps := xs)
    (PairArg.list a _ (fun j => ((ps[j]?).map (·.1)).getD 0) (xs.map fun x => (Value.ref x.2.1, x.2.2))) (I.ok.hd hcalm) (show X.A.units + 1 + 1 < cLine by omega)
    ⟨⟨o, n, ho, hc, hd, hdat⟩, ⟨by simp [hl], fun j k v e => ?_⟩⟩ ⟨by simp, fun i k v e => ?_⟩ (fun h' hk x hxm => ?_) (by simpa [hl] using hz') fun h' tk hd' hk => ?_
  · obtain ⟨q', e1, rfl, rfl⟩ := hps j k v e
    obtain ⟨b, e2, _, ht⟩ := hx j q' e1
    have e3 : ((ps[j]?).map (·.1)).getD 0 = b.1 := by rw [e2]; rfl
    show _ ∧ PairAt s.heap (((ps[j]?).map (·.1)).getD 0) _ _
    rw [e3]
    exact ⟨by show _ = some (Value.ref (((ps[j]?).map (·.1)).getD 0)); rw [e3]; simp [e2], .inl ht⟩
  · obtain ⟨q', e1, rfl, rfl⟩ := hps i k v e
    exact ⟨q'.1, q'.2.1, e1, rfl⟩
  · obtain ⟨o', its', n', h1, h2⟩ := hkey x hxm
    exact ⟨o', its', n', hk _ _ (Nat.ne_of_lt (Heap.lt_size h1)) (fun z => nomatch z) h1, h2⟩
  · have hm : (s.heap.objs.size == sysModules) = false := beq_eq_false_iff_ne.mpr (Nat.ne_of_gt I.big)
    have hlen : (mergeT [] kvs).length ≤ sizeLine := by
      have h1 := Paired.length (mergeT_kt rel (m := []) (ms := []) .nil)
      have h2 := storedAllH_length xs ([] : List (List Key × Addr × Value))
      rw [List.length_nil, Nat.zero_add] at h2
      rw [h1]
      exact Nat.le_trans h2 (by rw [hl]; exact hz')
    obtain ⟨q', es, ep, g1, g2, g3, g4, _, g5⟩ := hd'
    refine ⟨.ref s.heap.objs.size, upd H s.heap.objs.size (.dT (mergeT [] kvs)), I.laid (t' := tk) (fun b o' e => hk b o' (fun z => nomatch z) e) (Nat.le_refl _) ⟨hlen, hm, _, (mergeT_kt rel .nil).keeps fun c ys ec => ?_, q', es, ep, g1, g2, g3, g4, g5⟩,
      rfl, q _ (I.hok.fresh (Nat.le_refl _))⟩
    rw [upd_ne (ne_of_none ec (I.hok.fresh (Nat.le_refl _)))]
    exact ec
end
section
variable {β : Type} [Py β] {F H : Hp}
def mergeDT (xs : List ((Int × Int) × β)) : List ((Int × Int) × β) := xs.foldl (fun m p => dPut m p.1 p.2) []
theorem mergeT_rd {kvs : List (List Key × V)} {xs : List ((Int × Int) × β)} (hs : RD F kvs xs) : ∀ {m : List (List Key × V)} {ms : List ((Int × Int) × β)}, RD F m ms → RD F (mergeT m kvs) (xs.foldl (fun m p => dPut m p.1 p.2) ms) := by
  induction hs with
  | nil => intro m ms h; exact h
  | @cons k v y kvs xs hv _ ih =>
    intro m ms h
    exact ih (h.put k hv)
theorem pairsT_of_rl {K : PySem.W.Frag} (s : Same F H) : ∀ {vs : List V} {xs : List ((Int × Int) × β)}, RL F vs xs → ∃ (ps : List (Addr × Addr)) (kvs : List (List Key × V)),
    vs = (ps.map fun p => V.ref p.1) ∧ Paired (PairT K H) ps kvs ∧ RD F kvs xs
  | _, [], h => ⟨[], [], RL.nil_ h, .nil, .nil⟩
  | _, x :: xs, h => by
    obtain ⟨w, ws, rfl, h1, h2⟩ := RL.cons_ h
    obtain ⟨ps, kvs, e, hp, hr⟩ := pairsT_of_rl (K := K) s h2
    obtain ⟨p, v1, v2, rfl, hp1, h3, h4⟩ := R.t2_ h1
    obtain ⟨b, w1, w2, rfl, hb, h5, h6⟩ := R.t2_ h3
    rw [R.int_ h5, R.int_ h6] at hb
    exact ⟨(p, b) :: ps, ([.inl x.1.1, .inl x.1.2], v2) :: kvs, by rw [e]; rfl, .cons ⟨SqT.of (s _ _ hp1), s _ _ hb⟩ hp, .cons (k := x.1) h4 hr⟩
end
/-! ### max and min of a list -/
def mxI : List Int → Option Int
  | [] => none
  | x :: xs => match mxI xs with
    | none => some x
    | some m => some (if m < x then x else m)
def mnI : List Int → Option Int
  | [] => none
  | x :: xs => match mnI xs with
    | none => some x
    | some m => some (if x < m then x else m)
theorem mxI_none : ∀ {xs : List Int}, mxI xs = none → xs = []
  | [], _ => rfl
  | x :: xs, h => by
    unfold mxI at h
    cases e : mxI xs <;> rw [e] at h <;> exact nomatch h
theorem mnI_none : ∀ {xs : List Int}, mnI xs = none → xs = []
  | [], _ => rfl
  | x :: xs, h => by
    unfold mnI at h
    cases e : mnI xs <;> rw [e] at h <;> exact nomatch h
theorem mxI_is : ∀ {xs : List Int} {m : Int}, mxI xs = some m → m ∈ xs ∧ ∀ y ∈ xs, y ≤ m
  | [], _, h => nomatch h
  | x :: xs, m, h => by
    unfold mxI at h
    cases e : mxI xs with
    | none =>
      rw [e] at h
      cases h
      rw [mxI_none e]
      exact ⟨List.mem_cons_self, fun y hy => by rw [List.mem_singleton.mp hy]; exact Int.le_refl _⟩
    | some n =>
      rw [e] at h
      obtain ⟨h1, h2⟩ := mxI_is e
      have h : (if n < x then x else n) = m := Option.some.inj h
      by_cases z : n < x
      · rw [if_pos z] at h
        subst h
        refine ⟨List.mem_cons_self, fun y hy => ?_⟩
        rcases List.mem_cons.mp hy with hy | hy
        · omega
        · have := h2 y hy; omega
      · rw [if_neg z] at h
        subst h
        refine ⟨List.mem_cons_of_mem _ h1, fun y hy => ?_⟩
        rcases List.mem_cons.mp hy with hy | hy
        · omega
        · exact h2 y hy
theorem mnI_is : ∀ {xs : List Int} {m : Int}, mnI xs = some m → m ∈ xs ∧ ∀ y ∈ xs, m ≤ y
  | [], _, h => nomatch h
  | x :: xs, m, h => by
    unfold mnI at h
    cases e : mnI xs with
    | none =>
      rw [e] at h
      cases h
      rw [mnI_none e]
      exact ⟨List.mem_cons_self, fun y hy => by rw [List.mem_singleton.mp hy]; exact Int.le_refl _⟩
    | some n =>
      rw [e] at h
      obtain ⟨h1, h2⟩ := mnI_is e
      have h : (if x < n then x else n) = m := Option.some.inj h
      by_cases z : x < n
      · rw [if_pos z] at h
        subst h
        refine ⟨List.mem_cons_self, fun y hy => ?_⟩
        rcases List.mem_cons.mp hy with hy | hy
        · omega
        · have := h2 y hy; omega
      · rw [if_neg z] at h
        subst h
        refine ⟨List.mem_cons_of_mem _ h1, fun y hy => ?_⟩
        rcases List.mem_cons.mp hy with hy | hy
        · omega
        · exact h2 y hy
theorem mxI_uq {xs : List Int} {m n : Int} (h : mxI xs = some m) (h1 : n ∈ xs) (h2 : ∀ y ∈ xs, y ≤ n) : m = n := by
  have a := mxI_is h
  have b := a.2 n h1
  have c := h2 m a.1
  omega
theorem mnI_uq {xs : List Int} {m n : Int} (h : mnI xs = some m) (h1 : n ∈ xs) (h2 : ∀ y ∈ xs, n ≤ y) : m = n := by
  have a := mnI_is h
  have b := a.2 n h1
  have c := h2 m a.1
  omega
section
variable {X : Cx} {K : PySem.W.Frag}
theorem cr_maxK (hc : X.calm = true) (h : X.K = K) : CallR X (.builtin "max") (rMax K) := by rw [← h]; exact cr_max hc
theorem cr_minK (hc : X.calm = true) (h : X.K = K) : CallR X (.builtin "min") (rMin K) := by rw [← h]; exact cr_min hc
end
end PG

set_option Elab.async false
set_option linter.all false
set_option maxRecDepth 100000
set_option maxHeartbeats 4000000
namespace PG
open PySem PySem.Spec PyProof.Rows L2
open PySem.W (T3 T4 Datum DatumOrd Holds HoldAll EachIs)
/-! ### an exception that was caught and is kept: tracked from then on -/
def excAt (cls : Value) (d : Option Addr) (a : Addr) : Heap → Prop := fun h => ∃ o vs, h.get? a = some o ∧ Zc cls d o ∧ o.data = .fields vs
def excO (cls : Value) (d : Option Addr) (a : Addr) : HO := .ext (excAt cls d a)
section
variable {X : Cx} {pins : List (Addr × Obj)} {σ : L2.St} {H : Hp} {s : Shared}
theorem adopt {a : Addr} {cls : Value} {d : Option Addr} (I : L2.Inv X pins σ H s) (ha : H a = none) (hp : excAt cls d a s.heap) (h0 : X.s_0.heap.get? a = none) (nL : a ≠ X.env.locals) (np : ∀ p ∈ X.pn ++ pins, p.1 ≠ a) :
    L2.Inv X pins σ (upd H a (excO cls d a)) s := by
  obtain ⟨o, vs, ho, hz, hd⟩ := id hp
  have keep : ∀ {b : Addr} {u : HO}, H b = some u → upd H a (excO cls d a) b = some u := fun {b u} q => (upd_ne (ne_of_none q ha)).trans q
  have bare : ∀ {b : Addr}, b ≠ a → H b = none → upd H a (excO cls d a) b = none := fun {b} z q => (upd_ne z).trans q
  refine ⟨I.ok, I.os, I.bare, ⟨I.base.keep, I.base.slot, fun b u q n hx => bare (fun z => ?_) (I.base.free b u q n hx), I.base.there, fun b xs q => keep (I.base.tups b xs q), fun b u v q => keep (I.base.frzs b u v q), fun b ps q => ?_⟩, I.loc, I.cell, bare (Ne.symm nL) I.free, fun y k e => bare (fun z => ?_) (I.freeC y k e), fun p hq => ?_, ?_, I.len⟩
  · rw [z, h0] at q; exact nomatch q
  · obtain ⟨more, r⟩ := I.base.tbls b ps q
    exact ⟨more, keep r⟩
  · obtain ⟨v, w, hw, hv⟩ := I.cell y k e
    rw [z, ho] at hw
    cases hw
    rw [hd] at hv
    exact nomatch hv
  · obtain ⟨q1, q2, q3⟩ := I.pin p hq
    exact ⟨q1, bare (np p hq) q2, q3⟩
  · exact L2.HOk.laidN I.hok (fun _ _ q => q) ha ⟨hp, ⟨o, ho⟩, fun g1 g2 x k => x.imp fun o' y => y.imp fun vs' z => ⟨k _ z.1, z.2⟩⟩
end
/-- what the clause 'except x as n', whose suite keeps the exception, wishes -/
def wKeep (K : PySem.W.Frag) (c : Value) (i : Nat) (ts : Addr → TS) (out : WX) (D : Ends) : WX := fun cls d σ H =>
  ∃ b, PySem.W.exmOne K cls c = some b ∧ (b = true → ∀ a, H a = none → ts a { nx := fun σ' H' => D.nx (σ'.set i none) (upd H' a (excO cls d a)), rt := fun _ _ => False, bk := fun _ _ => False, ct := fun _ _ => False } (σ.set i (some (.ref a))) H) ∧ (b = false → out cls d σ H)
section
variable {X : Cx} {x n : Str} {c : Value} {i : Nat} {body suite : List Stmt} {b1 : Stmt} {np q1 q2 : Pos} {tb : WX → TS} {ts : Addr → TS} {out : WX}
theorem ps_try_keep (hs : X.stack = X.env :: X.outer) (hf : X.env.frame = some X.env.locals) (hex : X.ex = []) (hN : X.N.Nodup) (hi : X.N[i]? = some n) (hl : X.env.kindOf n = some .local) (hc : Names X x c) (tk : Takes X out)
    (hb : ∀ (W : WX) (pn : List (Addr × Obj)) (xe : Value → Shared → Prop), Takes (X.tr pn xe) W → PassesOwn (model X.prog X.w) X.A X.env xe → PSs (X.tr pn xe) body (tb W))
    (hsu : ∀ (a : Addr) (o : Obj) (pn : List (Addr × Obj)), PSs (X.suite a ((a, o) :: pn)) (b1 :: suite) (ts a)) :
    PS X (.Try body [.ExceptHandler (some (.Name x np)) (some n) (b1 :: suite) q1] [] [] q2) (fun D σ H => tb (wKeep X.K c i ts out D) D σ H) := by
  refine ⟨fun pins s σ H D I wish => wpAny_Try_except ?_⟩
  have ok := I.ok
  have hfr : X.A.frames = some (X.env :: X.outer) := ok.frames.trans (by rw [hs])
  have run := (hb (wKeep X.K c i ts out D) (X.pn ++ pins) (fun e g1 => wpAny (model X.prog X.w) X.A (noteFrame e X.env) (fun _ g2 => wpAny (model X.prog X.w) X.A (setFlight e none)
    (fun _ g3 => wpAny (model X.prog X.w) X.A (handleBy e X.env [.ExceptHandler (some (.Name x np)) (some n) (b1 :: suite) q1]) (SP X pins D) X.xe g3) X.xe g2) X.xe g1)
    (fun u g ⟨a, B, sI, ps, τ, G, cls, d, eu, J0, nb, up, sky, na, eos, ag, b, hb1, yes, no⟩ => by
      subst eu
      have J : L2.Inv X pins τ G sI := J0.ofTry ok
      show wpAny (model X.prog X.w) X.A (noteFrame (.ref a) X.env) _ _ _
      refine Sky.land Zc.steady hfr hf (show Sky B (X.env :: X.outer) a (Zc cls d) X.env.locals g.heap by rw [← hs]; exact sky) fun k1 fl1 up1 => ?_
      have J1 : L2.Inv X pins τ G { g with heap := k1 } := J.landed nb fl1.1 (up.trans up1) eos ag
      obtain ⟨o1, vs1, ho1, hz1, hd1⟩ := fl1.there
      have off : a ∉ frs (X.env :: X.outer) := fun hm => by
        obtain ⟨_, o', eo, hnf⟩ := fl1.2.2.1.mem hm
        rw [ho1] at eo
        cases eo
        exact hnf _ hd1
      have nL : a ≠ X.env.locals := fun z => off (List.mem_filterMap.mpr ⟨X.env, List.mem_cons_self, by rw [hf, z]⟩)
      have nF : a ∉ X.fs := fun hm => by
        obtain ⟨e, he, q⟩ := List.mem_filterMap.mp hm
        exact off (List.mem_filterMap.mpr ⟨e, List.mem_cons_of_mem _ he, q⟩)
      have young : ∀ o, sI.heap.get? a ≠ some o := fun o q => by
        have z := nb a o q (by rw [hs]; exact off)
        rw [fl1.2.1] at z
        exact nomatch z
      have h0 : X.s_0.heap.get? a = none := by
        cases q : X.s_0.heap.get? a with
        | none => rfl
        | some o =>
          obtain ⟨o', z⟩ := J.base.there a o q (by rw [hex]; exact fun z => nomatch z)
          exact (young _ z).elim
      have offp : ∀ p ∈ X.pn ++ pins, p.1 ≠ a := fun p hp z => young p.2 (by rw [← z]; exact (J.pin p hp).1)
      have S1 := J1.suite ho1 hd1 na nL nF
      refine wpAny_handleBy_cons (codeAny_handlers_test ?_) (fun q => nomatch q)
      have look : PySem.W.Looks (model X.prog X.w) k1 (typeOf (.ref a)) cls := fun _ _ _ _ k q => wpAny_typeOf_ref (k _ _ ho1) (by rw [hz1.1]; exact q)
      have match_ := PySem.W.exm_one (M := model X.prog X.w) J1.kIn look hb1
      have named : ∀ {Q : Value → Shared → Prop} {E : Value → Shared → Prop}, Q c { g with heap := k1 } → wpAny (model X.prog X.w) (X.A.mark (some (.ref a))) (eval (.Name x np) X.env) Q E { g with heap := k1 } := fun {Q E} q => by
        obtain ⟨hg, hdbg, hm | ⟨hm, hv, hnn⟩⟩ := hc
        · exact ld_glob (X := X.suite a ((a, o1) :: (X.pn ++ pins))) S1 hg hm q hdbg
        · exact ld_blt (X := X.suite a ((a, o1) :: (X.pn ++ pins))) S1 hg hm hv q hnn hdbg
      refine named (match_.here ?_)
      cases b with
      | true =>
        refine codeAny_handlers_suite_as (HandSPX.lands_againZ fl1 fun k2 fl2 up2 => ?_)
        have J2 : L2.Inv X pins τ G { g with heap := k2 } := J.landed nb fl2.1 ((up.trans up1).trans up2) eos ag
        obtain ⟨o2, vs2, ho2, hz2, hd2⟩ := fl2.there
        refine store_ok (X := X.suite a ((a, o2) :: (X.pn ++ pins))) (v := .ref a) (J2.suite ho2 hd2 na nL nF) hN hi (.inl hl) rfl (fun g5 S5 => ?_) (.inr hl)
        refine wpAny_mono ((hsu a o2 (X.pn ++ pins)).run [] g5 _ G _ S5 (yes rfl a na)) (fun f g6 hsp => ?_) (fun _ _ z => z.elim)
        cases f with
        | next =>
          obtain ⟨τ6, G6, S6, q6⟩ := hsp
          refine gone_ok (X := X.suite a ((a, o2) :: (X.pn ++ pins))) S6 hN hi hl fun g7 S7 => ?_
          obtain ⟨hget, hn7, _⟩ := S7.pin (a, o2) (List.mem_append_left _ List.mem_cons_self)
          exact ⟨_, _, adopt (S7.unsuite ok) hn7 ⟨o2, vs2, hget, hz2, hd2⟩ h0 nL offp, q6⟩
        | brk => obtain ⟨_, _, _, q6⟩ := hsp; exact q6.elim
        | cont => obtain ⟨_, _, _, q6⟩ := hsp; exact q6.elim
        | ret u => obtain ⟨_, _, _, _, _, q6⟩ := hsp; exact q6.elim
      | false =>
        refine wpAny_handleBy_nil ?_
        obtain ⟨_, _, _, o3, vs3, T, oT, ts3, he, hz, hd, h1, hr⟩ := id fl1
        unfold PySem.passOn
        refine wpAny_bind (wpAny_field he hd h1 ?_)
        rw [if_neg (by simp : ¬ ((Value.ref T == Value.none) = true))]
        have up_ : wpAny (model X.prog X.w) X.A (setFlight (.ref a) X.env.frame) (fun _ g4 => wpAny (model X.prog X.w) X.A (throw (.ref a) : Sem Flow) (SP X pins D) X.xe g4) X.xe { g with heap := k1 } := by
          rw [hf]
          exact HandSPX.setFlight_upZ fl1 fun k2 fl2 up2 => wpAny_throw (tk _ _ ⟨a, B, sI, pins, τ, G, cls, d, rfl, J, nb, (up.trans up1).trans up2, .inr (.inr (by rw [hs]; exact fl2)), na, eos, ag, no rfl⟩)
        first
          | exact wpAny_bind up_
          | exact wpAny_bind (wpAny_pure (wpAny_bind up_)))
    PassesOwn.looking).run [] s σ H D (I.toTry _) wish
  refine wpAny_mono run (fun f g hsp => ?_) (fun _ _ z => z)
  cases f with
  | next => obtain ⟨τ, G, J, q⟩ := hsp; exact wpAny_execs_nil ⟨τ, G, J.ofTry ok, q⟩
  | brk => obtain ⟨τ, G, J, q⟩ := hsp; exact ⟨τ, G, J.ofTry ok, q⟩
  | cont => obtain ⟨τ, G, J, q⟩ := hsp; exact ⟨τ, G, J.ofTry ok, q⟩
  | ret u => obtain ⟨v, τ, G, J, r, q⟩ := hsp; exact ⟨v, τ, G, J.ofTry ok, r, q⟩
end
/-! ### isinstance of what was caught -/
section
variable {X : Cx}
theorem inst_of {a D : Addr} {h : Heap} (x : excAt (.ref D) none a h) : ∃ o, PySem.W.InstAt h a o D none := by
  obtain ⟨⟨oc, od, oda, osl⟩, vs, hg, ⟨h1, h2⟩, h3⟩ := x
  dsimp only at h1 h2 h3
  subst h1 h2 h3
  exact ⟨_, hg, rfl, rfl, trivial⟩
/-- whose class is t: what was caught, or a value of a built-in type -/
inductive KX (K : PySem.W.Frag) (H : Hp) : V → Value → Prop where
  | exc {a D : Addr} (e : H a = some (excO (.ref D) none a)) (c : ExcC K D) : KX K H (.ref a) (.ref D)
  | base {x : V} {t : Value} (h : TyX K H x t) : KX K H x t
theorem kx_of {pins : List (Addr × Obj)} {σ : L2.St} {H : Hp} {s : Shared} {x : V} {u t : Value} (I : L2.Inv X pins σ H s) (rx : RelV x u) (k : KX X.K H x t) : ∃ P : Heap → Prop, PySem.W.KitX X.K u t P ∧ P s.heap ∧ u ≠ .builtin "__main__.__loader__#opaque" := by
  cases k with
  | @exc a D e C =>
    cases (show u = Value.ref a from rx)
    obtain ⟨o, J⟩ := inst_of (show excAt (.ref D) none a s.heap from (I.hok a _ e).1)
    exact ⟨_, PySem.W.handS_kitx_exc C.hg C.hk C.hs C.hd C.ha C.hn C.ht C.hm, J, fun z => nomatch z⟩
  | base h => exact kit_of I rx h
def rIsU (K : PySem.W.Frag) : List V → Hp → VK → Prop := fun xs H Q => ∃ (x c : V) (t u : Value) (b : Bool), xs = [x, c] ∧ ClsV c u ∧ KX K H x t ∧ PySem.W.kitOne K t u = some b ∧ Q (.bl b) H
theorem isuK {K : PySem.W.Frag} (hK : X.K = K) : CallR X (.builtin "isinstance") (rIsU K) := by
  subst hK
  intro pins s σ H xs us Q I r ⟨x, c, t, u, b, ex, hc, k, e, q⟩
  subst ex
  obtain ⟨u1, u2, rfl, r1, r2⟩ := vals2 r
  cases hc.eq r2
  obtain ⟨P, Z, p, hx⟩ := kx_of I r1 k
  exact PySem.W.kia_one Z I.kIn p e hx fun tk => ⟨.bl b, H, I.tok tk, rfl, q⟩
def rIsUT (K : PySem.W.Frag) : List V → Hp → VK → Prop := fun xs H Q => ∃ (x : V) (tp : Addr) (cs : List V) (t : Value) (ws : List Value) (b : Bool), xs = [x, .ref tp] ∧ H tp = some (.tup cs) ∧ Paired ClsV cs ws ∧ KX K H x t ∧ PySem.W.kitAny K t ws = some b ∧ Q (.bl b) H
theorem isutK {K : PySem.W.Frag} (hK : X.K = K) : CallR X (.builtin "isinstance") (rIsUT K) := by
  subst hK
  intro pins s σ H xs us Q I r ⟨x, tp, cs, t, ws, b, ex, hT, hc, k, e, q⟩
  subst ex
  obtain ⟨u1, u2, rfl, r1, r2⟩ := vals2 r
  cases (show u2 = Value.ref tp from r2)
  obtain ⟨P, Z, p, hx⟩ := kx_of I r1 k
  obtain ⟨_, its, rv, ⟨oc, od, dt, sl⟩, h1, h2, n, h3⟩ := (show ObjOk X.prog X.w H s.heap tp (.tup cs) from I.hok tp _ hT)
  have e3 := ClsV.all hc rv
  subst e3
  dsimp only at h2 h3
  subst h2 h3
  exact PySem.W.kia_tup Z I.kIn p h1 e hx fun tk => ⟨.bl b, H, I.tok tk, rfl, q⟩
end
theorem kit_own {K : PySem.W.Frag} {t : Value} {C : Addr} {b : Bool} (hd : PySem.W.hasDictIn K C = true) (ht : PySem.W.typeIn K (.ref C) = some (.type "type")) (hs : PySem.W.subIn K t (.ref C) = some b) (ho : PySem.W.subIn K (.ref C) (.ref C) = some true) : PySem.W.kitOne K t (.ref C) = some b := by
  obtain ⟨cd, hc, _⟩ := PySem.W.any_some hd
  unfold PySem.W.kitOne PySem.W.kitCls
  by_cases z : (t == .ref C) = true
  · rw [if_pos z]
    have z := beq_iff_eq.mp z
    subst z
    exact ho.symm.trans hs
  · rw [if_neg z]
    show (if ((PySem.W.clsIn K C).isSome && PySem.W.typeIn K (.ref C) == some (.type "type")) = true then _ else _) = _
    rw [if_pos (by rw [hc, ht]; rfl)]
    exact hs
theorem kit_blt {K : PySem.W.Frag} {D : Addr} {T : String} {b : Bool} (hm : PySem.W.kitMeta T = true) (hs : PySem.W.subIn K (.ref D) (.type T) = some b) : PySem.W.kitOne K (.ref D) (.type T) = some b := by
  unfold PySem.W.kitOne PySem.W.kitCls
  rw [if_neg (by simp)]
  show (if PySem.W.kitMeta T = true then _ else _) = _
  rw [if_pos hm]
  exact hs
theorem any_no {K : PySem.W.Frag} {t c : Value} {cs : List Value} {r : Bool} (h : PySem.W.kitOne K t c = some false) (hr : PySem.W.kitAny K t cs = some r) : PySem.W.kitAny K t (c :: cs) = some r := kitAny_cons h (fun _ => hr) fun z => nomatch z
theorem any_yes {K : PySem.W.Frag} {t c : Value} {cs : List Value} (h : PySem.W.kitOne K t c = some true) : PySem.W.kitAny K t (c :: cs) = some true := kitAny_cons h (fun z => nomatch z) fun _ => rfl
/-! ### a call within a try -/
def tCallW (sp : Sp) (W : WX) (t : TA) : TE := fun σ H Q => t σ H fun vs H1 => sp vs H1 Q fun cls d H' => W cls d σ H'
theorem pe_callW {X : Cx} {k : Nat} {f : Addr} {fd : FuncData} {ps : List Str} {sp : Sp} {W : WX} {x : Str} {p pos : Pos} {e : Expr} {es : List Expr} {t : TA} (F : FnOk X.prog X.w X.K X.mg X.base (L2.CX X.prog X.w) k f fd ps sp) (hr : Room k X.A) (hg : Gl X x) (hm : X.mg x = some (.ref f)) (hk : PySem.W.keepIn X.K (.ref f) = true) (hb : Binds X.K fd ps [])
    (tk : Takes X W) (ha : PA X (e :: es) t) (hdb : (x == ("__debug__" : Str)) = false := by decide) (he : starEach (e :: es) X.env = (false, eval e X.env) :: starEach es X.env := by rfl) (hpl : (backTo pos (starEach es X.env)).any (·.1) = false := by rfl) :
    PE X (.Call (.Name x p) (e :: es) [] pos) (tCallW sp W t) := by
  refine ⟨fun pins s σ H Q I h => wpAny_Call_Name_kw (ld_glob I hg hm ?_ hdb)⟩
  refine PySem.W.callWith_K (h₀ := X.base) I.ok.mod.kin hk (thn (ha.run pos pins s σ H _ I h) fun us g ⟨vs, G, J, r, q⟩ => ⟨J.kIn, ?_⟩) he hpl
  have hl : us.length = ps.length := by rw [← r.length]; exact F.len _ _ _ _ q
  refine wpAny_call (codeAny_mono (F.run X.A X.stack g G ⟨us, []⟩ us vs Q (fun cls d H' => W cls d σ H') hr J.env0 (by have := hb g us J.kIn (by simpa using hl); simpa using this) r q) fun res g' hq => ?_)
  cases res with
  | error z => exact tk _ _ (XE.of_call J (fun _ _ _ h => h) hq)
  | ok fl =>
    cases fl with
    | ret u => exact J.after hq
    | next => exact hq.elim
    | brk => exact hq.elim
    | cont => exact hq.elim
/-- try: m, except one of those of L: k1, else k0 -/
def tryK {a : Type} (L : List String) (m : M Unit) (k0 : M a) (k1 : String → M a) : M a := match m with
  | .ok _ => k0
  | .error .bad => bad
  | .error (.exc n) => if n ∈ L then k1 n else bad
theorem wp_tryK {b : Type} {L : List String} {m : M Unit} {k0 : M b} {k1 : String → M b} {Q : b → Prop} {E : String → Prop} (h : wp (tryK L m k0 k1) Q E) : wp m (fun _ => wp k0 Q E) fun n => n ∈ L ∧ wp (k1 n) Q E := by
  cases m with
  | ok x => exact h
  | error e =>
    cases e with
    | bad => exact h
    | exc n =>
      by_cases z : n ∈ L
      · have e : tryK L (.error (.exc n)) k0 k1 = k1 n := if_pos z
        rw [e] at h
        exact ⟨z, h⟩
      · have e : tryK L (.error (.exc n)) k0 k1 = bad := if_neg z
        rw [e] at h
        exact h.elim
theorem wp_okE {a : Type} {x : a} {Q : a → Prop} {E : String → Prop} (h : wp (.ok x : M a) Q E) : Q x := h
theorem Ow.exc {Z : Ent} {F H H1 : Hp} {cs : List (Addr × HO)} (O : Ow Z F cs H) (k : Kp [] H H1) : Ow Z F cs H1 where
  g := {
    f := O.g.f
    s := fun b o e => k.k b o (fun z => nomatch z) (O.g.s b o e)
    k := fun b o hb e => k.k b o (fun z => nomatch z) (O.g.k b o hb e)
    t := fun b h => k.t b (O.g.t b h)
    n := O.g.n
    u := fun b xs e => by
      cases q : H b with
      | none =>
        left
        cases z : Z.H b with
        | none => rfl
        | some o => exact (O.g.t b (by rw [z]; exact fun w => nomatch w) q).elim
      | some o =>
        have := k.k b o (fun z => nomatch z) q
        rw [e] at this
        cases this
        exact O.g.u b xs q }
  cf := O.cf
  ch := fun c hc => k.k _ _ (fun z => nomatch z) (O.ch c hc)
  nd := O.nd
  ca := O.ca
  nt := O.nt
theorem mem1 {n a : String} (h : n ∈ [a]) : n = a := List.mem_singleton.mp h
theorem mem2 {n a b : String} (h : n ∈ [a, b]) : n = a ∨ n = b := by simpa using h
/-! ### lists of truths: count, index -/
theorem RL.bools {H : Hp} : ∀ {vs : List V} {xs : List Bool}, RL H vs xs → vs = xs.map V.bl
  | _, [], h => RL.nil_ h
  | _, x :: xs, h => by
    obtain ⟨w, ws, rfl, h1, h2⟩ := RL.cons_ h
    rw [R.bl_ h1, RL.bools h2]
    rfl
def cntB (k : Bool) : List Bool → Int
  | [] => 0
  | y :: r => (if y = k then 1 else 0) + cntB k r
theorem cnt_in (k : Bool) : ∀ bs : List Bool, PySem.Spec.countIn (.bool k) (bs.map PyData.bool) = cntB k bs
  | [] => rfl
  | b :: bs => by
    show (if same (PyData.bool b) (PyData.bool k) = true then (1 : Int) else 0) + PySem.Spec.countIn _ _ = _
    rw [cnt_in k bs]
    cases b <;> cases k <;> rfl
theorem bools_vals : ∀ {bs : List Bool} {its : List Value}, Vals (bs.map V.bl) its → its = bs.map Value.bool
  | [], its, r => by rw [List.map_nil] at r; cases r; rfl
  | b :: bs, its, r => by
    rw [List.map_cons] at r
    cases r with
    | cons h t => cases h; rw [List.map_cons, ← bools_vals t]
theorem reads_bools {hp : Heap} : ∀ bs : List Bool, ReadsAll hp (bs.map Value.bool) (bs.map PyData.bool) []
  | [] => .nil
  | b :: bs => .cons (as := []) (bs := []) (.bool b) (reads_bools bs)
def rCntB (K : PySem.W.Frag) : V → List V → Hp → VK → Prop := fun x xs H Q => ∃ (a : Addr) (bs : List Bool) (k : Bool), x = .ref a ∧ xs = [.bl k] ∧ SqL K H a (bs.map V.bl) ∧ Q (.int (cntB k bs)) H
theorem countBK {X : Cx} {K : PySem.W.Frag} (hK : X.K = K) : MtR X "list.count" (rCntB K) := by
  subst hK
  intro pins s σ H x xs v us Q I rx r ⟨a, bs, k, ex, exs, hs, q⟩
  subst ex exs
  cases rx
  obtain ⟨u, rfl, ru⟩ := vals1 r
  cases ru
  obtain ⟨its, rv, pl, _⟩ := I.list hs
  cases bools_vals rv
  refine count_list_bools (hp := s.heap) (xs := bs.map PyData.bool) pl.isList (reads_bools bs) (List.all_eq_true.mpr fun y hy => ?_) ?_
  · obtain ⟨b, _, rfl⟩ := List.mem_map.mp hy
    rfl
  · rw [cnt_in]
    exact ⟨.int (cntB k bs), H, I.tok _, ⟨_, rfl⟩, q⟩
def ixB (xs : List Bool) (y : Bool) : M Int := if y ∈ xs then .ok ((xs.findIdx (· == y) : Nat) : Int) else bad
theorem wp_ixB {a : Type} {Q : a → Prop} {E : String → Prop} {xs : List Bool} {y : Bool} {k : Int → M a} (h : wp (ixB xs y >>= k) Q E) : ∃ j, xs.findIdx (· == y) = j ∧ xs[j]? = some y ∧ (∀ (m : Nat) z, m < j → xs[m]? = some z → z ≠ y) ∧ wp (k (j : Int)) Q E := by
  unfold ixB at h
  by_cases hm : y ∈ xs
  · rw [if_pos hm] at h
    have hlt : xs.findIdx (· == y) < xs.length := List.findIdx_lt_length_of_exists ⟨y, hm, by simp⟩
    refine ⟨_, rfl, ?_, fun m z hmj hz e => ?_, h⟩
    · rw [List.getElem?_eq_getElem hlt]
      have := List.findIdx_getElem (w := hlt)
      rw [eq_of_beq this]
    · have := List.not_of_lt_findIdx hmj
      obtain ⟨hl, hz⟩ := List.getElem?_eq_some_iff.mp hz
      rw [hz, e] at this
      simp at this
  · rw [if_neg hm] at h; exact h.elim
theorem all_flat_bl : ∀ xs : List Bool, (xs.map V.bl).all flatV = true
  | [] => rfl
  | x :: xs => by rw [List.map_cons, List.all_cons, all_flat_bl xs]; rfl
theorem bl_noeq {xs : List Bool} {y : Bool} {j : Nat} (h : ∀ (m : Nat) z, m < j → xs[m]? = some z → z ≠ y) : ∀ (m : Nat) (z' : V), m < j → (xs.map V.bl)[m]? = some z' → eqV z' (.bl y) = false := fun m z' hm hz => by
  rw [List.getElem?_map] at hz
  cases e : xs[m]? with
  | none => rw [e] at hz; cases hz
  | some z =>
    rw [e] at hz
    have hz : V.bl z = z' := Option.some.inj hz
    subst hz
    have := h m z hm e
    revert this
    cases z <;> cases y <;> intro this <;> first | rfl | exact (this rfl).elim
theorem bl_at {xs : List Bool} {y : Bool} {j : Nat} (h : xs[j]? = some y) : (xs.map V.bl)[j]? = some (.bl y) := by rw [List.getElem?_map, h]; rfl
theorem bl_eq {y : Bool} : eqV (.bl y) (.bl y) = true := by cases y <;> rfl
/-- x in xs, of data that are no scalars -/
def inD {a : Type} [DecidableEq a] (x : a) (xs : List a) : Prop := x ∈ xs
instance {a : Type} [DecidableEq a] (x : a) (xs : List a) : Decidable (inD x xs) := @List.instDecidableMemOfLawfulBEq a instBEqOfDecidableEq _ x xs
theorem iteDx {c A B : Prop} {i : Decidable c} (h1 : c → A) (h2 : ¬ c → B) : if @decide c i = true then A else B := @iteD c A B i h1 h2
theorem iteNx {c A B : Prop} {i : Decidable c} (h1 : c → B) (h2 : ¬ c → A) : if (!@decide c i) = true then A else B := @iteN c A B i h1 h2
end PG

set_option Elab.async false
set_option linter.all false
set_option maxRecDepth 100000
set_option maxHeartbeats 4000000
/-! Plain mathematics over the monad M: no program in sight. -/
namespace PG
open PySem L2
open PySem.W (T3 T4 Datum DatumOrd)
section
variable {a b s i : Type}
theorem ok_b (x : a) (k : a → M b) : (Except.ok x >>= k) = k x := rfl
theorem okP_b (x : a) (k : a → M b) : ((Except.ok x : M a) >>= k) = k x := rfl
theorem ret_b (x : a) (k : a → M b) : (ret x >>= k) = k x := rfl
theorem chk_ok {c : Prop} [Decidable c] (h : c) : chk c = .ok () := by unfold chk; rw [if_pos h]
theorem chk_b {c : Prop} [Decidable c] (h : c) (k : Unit → M b) : (chk c >>= k) = k () := by rw [chk_ok h]; rfl
theorem opt_b {o : Option a} {x : a} (h : o = some x) (k : a → M b) : (opt o >>= k) = k x := by rw [h]; rfl
theorem bind_ok {m : M a} {x : a} (h : m = .ok x) (k : a → M b) : (m >>= k) = k x := by rw [h]; rfl
theorem appL_ok {xs : List a} {y : a} (h : xs.length < 16777216) : appL xs y = .ok (xs ++ [y]) := by unfold appL; rw [if_pos h]
theorem ixN_nat {n : Nat} {j : Int} (h0 : 0 ≤ j) (h : j < n) : ixN n j = some j.toNat := by unfold ixN; rw [if_pos h0, if_pos h]
theorem atI_of {xs : List a} {j : Int} {x : a} (h0 : 0 ≤ j) (h : xs[j.toNat]? = some x) : L2.atI xs j = some x := by
  have hl := (List.getElem?_eq_some_iff.mp h).1
  unfold L2.atI
  rw [ixN_nat h0 (by omega)]
  exact h
theorem atI_some {xs : List a} {j : Int} (h0 : 0 ≤ j) (h : j < xs.length) : ∃ x, L2.atI xs j = some x ∧ xs[j.toNat]? = some x := by
  have hl : j.toNat < xs.length := by omega
  exact ⟨xs[j.toNat], atI_of h0 (List.getElem?_eq_getElem hl), List.getElem?_eq_getElem hl⟩
theorem setI_ok {xs : List a} {j : Int} {y : a} (h0 : 0 ≤ j) (h : j < xs.length) : setI xs j y = .ok (xs.set j.toNat y) := by unfold setI; rw [ixN_nat h0 h]
theorem popI_ok {xs : List a} {j : Int} {y : a} (h0 : 0 ≤ j) (h : xs[j.toNat]? = some y) (hl : xs.length < 16777216) : popI xs j = .ok (y, xs.eraseIdx j.toNat) := by
  have h1 := (List.getElem?_eq_some_iff.mp h).1
  unfold popI
  rw [if_pos hl, ixN_nat h0 (by omega)]
  show (match xs[j.toNat]? with
    | some y => (Except.ok (y, xs.eraseIdx j.toNat) : M _)
    | none => bad) = _
  rw [h]
/-- loops by an invariant over the items gone through -/
theorem loopN_inv {f : i → s → M s} (P : List i → s → Prop) : ∀ {xs pre : List i} {x : s}, P pre x → (∀ pre y ys x, xs ++ [] = xs → P pre x → (∃ q, q ++ y :: ys = pre ++ y :: ys) → ∃ x', f y x = .ok x' ∧ P (pre ++ [y]) x') → ∃ x', loopN f xs x = .ok x' ∧ P (pre ++ xs) x' := by
  intro xs
  induction xs with
  | nil => intro pre x h _; exact ⟨x, rfl, by rw [List.append_nil]; exact h⟩
  | cons y ys ih =>
    intro pre x h hs
    obtain ⟨x1, e1, h1⟩ := hs pre y ys x (List.append_nil _) h ⟨pre, rfl⟩
    obtain ⟨x2, e2, h2⟩ := ih (pre := pre ++ [y]) h1 fun pre y ys x _ hp hq => hs pre y ys x (List.append_nil _) hp hq
    refine ⟨x2, ?_, by rw [List.append_assoc] at h2; exact h2⟩
    show (f y x >>= fun x' => loopN f ys x') = _
    rw [e1]
    exact e2
/-- .. with what is known of the items -/
theorem loopN_run {f : i → s → M s} {all : List i} (P : List i → s → Prop) {x : s} (h : P [] x) (hs : ∀ pre y post x, all = pre ++ y :: post → P pre x → ∃ x', f y x = .ok x' ∧ P (pre ++ [y]) x') : ∃ x', loopN f all x = .ok x' ∧ P all x' := by
  have go : ∀ (xs pre : List i) (x : s), all = pre ++ xs → P pre x → ∃ x', loopN f xs x = .ok x' ∧ P (pre ++ xs) x' := by
    intro xs
    induction xs with
    | nil => intro pre x _ h; exact ⟨x, rfl, by rw [List.append_nil]; exact h⟩
    | cons y ys ih =>
      intro pre x e h
      obtain ⟨x1, e1, h1⟩ := hs pre y ys x e h
      obtain ⟨x2, e2, h2⟩ := ih (pre ++ [y]) x1 (by rw [List.append_assoc]; exact e) h1
      refine ⟨x2, ?_, by rw [List.append_assoc] at h2; exact h2⟩
      show (f y x >>= fun x' => loopN f ys x') = _
      rw [e1]
      exact e2
  exact go all [] x rfl h
/-- a loop that goes on at each item -/
theorem loopM_run {r : Type} {f : i → s → M (Fl s r)} {all : List i} (P : List i → s → Prop) {x : s} (h : P [] x) (hs : ∀ pre y post x, all = pre ++ y :: post → P pre x → ∃ x', f y x = .ok (.nx x') ∧ P (pre ++ [y]) x') : ∃ x', loopM f all x = .ok (.nx x') ∧ P all x' := by
  have go : ∀ (xs pre : List i) (x : s), all = pre ++ xs → P pre x → ∃ x', loopM f xs x = .ok (.nx x') ∧ P (pre ++ xs) x' := by
    intro xs
    induction xs with
    | nil => intro pre x _ h; exact ⟨x, rfl, by rw [List.append_nil]; exact h⟩
    | cons y ys ih =>
      intro pre x e h
      obtain ⟨x1, e1, h1⟩ := hs pre y ys x e h
      obtain ⟨x2, e2, h2⟩ := ih (pre ++ [y]) x1 (by rw [List.append_assoc]; exact e) h1
      refine ⟨x2, ?_, by rw [List.append_assoc] at h2; exact h2⟩
      show (f y x >>= fun q => match q with
        | .nx x' => loopM f ys x'
        | .rt z => .ok (.rt z)) = _
      rw [e1]
      exact e2
  exact go all [] x rfl h
/-- .. that has no state -/
theorem loopM_all {r : Type} {f : i → Unit → M (Fl Unit r)} {all : List i} (hs : ∀ y ∈ all, f y () = .ok (.nx ())) : loopM f all () = .ok (.nx ()) := by
  obtain ⟨x, e, _⟩ := loopM_run (f := f) (all := all) (fun _ _ => True) (x := ()) trivial fun pre y post x e _ => ⟨(), by cases x; exact hs y (by rw [e]; simp), trivial⟩
  exact e
theorem compX_run {c : Type} {f : i → s → M (Option c × s)} {all : List i} (P : List i → List c → s → Prop) {x : s} (h : P [] [] x)
    (hs : ∀ pre y post acc x, all = pre ++ y :: post → P pre acc x → ∃ o x', f y x = .ok (o, x') ∧ P (pre ++ [y]) (match o with
      | some z => acc ++ [z]
      | none => acc) x') : ∃ acc x', compX f all [] x = .ok (acc, x') ∧ P all acc x' := by
  have go : ∀ (xs pre : List i) (acc : List c) (x : s), all = pre ++ xs → P pre acc x → ∃ acc' x', compX f xs acc x = .ok (acc', x') ∧ P (pre ++ xs) acc' x' := by
    intro xs
    induction xs with
    | nil => intro pre acc x _ h; exact ⟨acc, x, rfl, by rw [List.append_nil]; exact h⟩
    | cons y ys ih =>
      intro pre acc x e h
      obtain ⟨o, x1, e1, h1⟩ := hs pre y ys acc x e h
      obtain ⟨acc2, x2, e2, h2⟩ := ih (pre ++ [y]) _ x1 (by rw [List.append_assoc]; exact e) h1
      refine ⟨acc2, x2, ?_, by rw [List.append_assoc] at h2; exact h2⟩
      show (nox (f y x) >>= fun p => compX f ys (match p.1 with
        | some z => acc ++ [z]
        | none => acc) p.2) = _
      rw [e1]
      exact e2
  exact go all [] [] x rfl h
theorem compS_run {c : Type} {f : i → s → M (Option c × s)} {all : List i} (hl : all.length < 16777216) (P : List i → List c → s → Prop) {x : s} (h : P [] [] x)
    (hs : ∀ pre y post acc x, all = pre ++ y :: post → P pre acc x → ∃ o x', f y x = .ok (o, x') ∧ P (pre ++ [y]) (match o with
      | some z => acc ++ [z]
      | none => acc) x') : ∃ acc x', compS f all x = .ok (acc, x') ∧ P all acc x' := by
  unfold compS
  rw [chk_b hl]
  exact compX_run P h hs
/-- a plain map with a test -/
theorem compS_pure {c : Type} {f : i → Unit → M (Option c × Unit)} {all : List i} (g : i → Option c) (hl : all.length < 16777216) (hs : ∀ y ∈ all, f y () = .ok (g y, ())) : compS f all () = .ok (all.filterMap g, ()) := by
  obtain ⟨acc, x, e, h⟩ := compS_run (f := f) (all := all) hl (fun pre acc _ => acc = pre.filterMap g) (x := ()) rfl fun pre y post acc x e h => by
    refine ⟨g y, (), by cases x; exact hs y (by rw [e]; simp), ?_⟩
    rw [h, List.filterMap_append]
    cases e2 : g y with
    | none => simp [e2]
    | some z => simp [e2]
  rw [e, h]
end

/-! ### sorted lists -/
section
variable {a : Type}
/-- two sorted lists of the same things are one -/
theorem perm_sorted_eq {le : a → a → Bool} (anti : ∀ x y, le x y = true → le y x = true → x = y) : ∀ {xs ys : List a}, xs.Perm ys → xs.Pairwise (fun x y => le x y = true) → ys.Pairwise (fun x y => le x y = true) → xs = ys := by
  intro xs
  induction xs with
  | nil => intro ys h _ _; exact (List.nil_perm.mp h).symm
  | cons x xs ih =>
    intro ys h hx hy
    cases ys with
    | nil => exact absurd h.length_eq (by simp)
    | cons y ys =>
      rw [List.pairwise_cons] at hx hy
      have e : x = y := by
        have m1 : x ∈ y :: ys := h.mem_iff.mp List.mem_cons_self
        have m2 : y ∈ x :: xs := h.mem_iff.mpr List.mem_cons_self
        rcases List.mem_cons.mp m1 with r | r
        · exact r
        · rcases List.mem_cons.mp m2 with q | q
          · exact q.symm
          · exact anti x y (hx.1 y q) (hy.1 x r)
      subst e
      rw [ih (List.Perm.cons_inv h) hx.2 hy.2]
class LeOk (a : Type) [DecidableEq a] [DatumOrd a] : Prop where
  tr : ∀ x y z : a, leT x y = true → leT y z = true → leT x z = true
  tot : ∀ x y : a, (leT x y || leT y x) = true
  anti : ∀ x y : a, leT x y = true → leT y x = true → x = y
theorem leT_int (x y : Int) : leT x y = decide (x ≤ y) := by
  show (!decide (y < x)) = decide (x ≤ y)
  by_cases h : y < x
  · have : ¬ x ≤ y := by omega
    simp [h, this]
  · have : x ≤ y := by omega
    simp [h, this]
instance : LeOk Int where
  tr x y z h1 h2 := by
    rw [leT_int, decide_eq_true_eq] at h1 h2 ⊢
    omega
  tot x y := by
    rw [leT_int, leT_int, Bool.or_eq_true, decide_eq_true_eq, decide_eq_true_eq]
    omega
  anti x y h1 h2 := by
    rw [leT_int, decide_eq_true_eq] at h1 h2
    omega
theorem leT_p (x y : Int × Int) : leT x y = decide (x.1 < y.1 ∨ (x.1 = y.1 ∧ x.2 ≤ y.2)) := by
  show (!(if y.1 = x.1 then decide (y.2 < x.2) else decide (y.1 < x.1))) = _
  by_cases h : y.1 = x.1
  · rw [if_pos h]
    by_cases h2 : y.2 < x.2
    · have : ¬ (x.1 < y.1 ∨ (x.1 = y.1 ∧ x.2 ≤ y.2)) := by omega
      simp [h2, this]
    · have : (x.1 < y.1 ∨ (x.1 = y.1 ∧ x.2 ≤ y.2)) := by omega
      simp [h2, this]
  · rw [if_neg h]
    by_cases h2 : y.1 < x.1
    · have : ¬ (x.1 < y.1 ∨ (x.1 = y.1 ∧ x.2 ≤ y.2)) := by omega
      simp [h2, this]
    · have : (x.1 < y.1 ∨ (x.1 = y.1 ∧ x.2 ≤ y.2)) := by omega
      simp [h2, this]
instance : LeOk (Int × Int) where
  tr x y z h1 h2 := by
    rw [leT_p, decide_eq_true_eq] at h1 h2 ⊢
    omega
  tot x y := by
    rw [leT_p, leT_p, Bool.or_eq_true, decide_eq_true_eq, decide_eq_true_eq]
    omega
  anti x y h1 h2 := by
    rw [leT_p, decide_eq_true_eq] at h1 h2
    exact Prod.ext (by omega) (by omega)
theorem leT_3 (x y : T3 Int Int Int) : leT x y = decide (x.a < y.a ∨ (x.a = y.a ∧ (x.b < y.b ∨ (x.b = y.b ∧ x.c ≤ y.c)))) := by
  show (!DatumOrd.lt y x) = _
  have e : DatumOrd.lt y x = decide (y.a < x.a ∨ (y.a = x.a ∧ (y.b < x.b ∨ (y.b = x.b ∧ y.c < x.c)))) := by
    rw [Bool.eq_iff_iff, decide_eq_true_eq]
    show (if y.a = x.a then (if y.b = x.b then decide (y.c < x.c) else decide (y.b < x.b)) else decide (y.a < x.a)) = true ↔ _
    by_cases h : y.a = x.a
    · rw [if_pos h]
      by_cases h2 : y.b = x.b
      · rw [if_pos h2, decide_eq_true_eq]; omega
      · rw [if_neg h2, decide_eq_true_eq]; omega
    · rw [if_neg h, decide_eq_true_eq]; omega
  rw [e, Bool.eq_iff_iff, Bool.not_eq_true', decide_eq_false_iff_not, decide_eq_true_eq]
  omega
instance : LeOk (T3 Int Int Int) where
  tr x y z h1 h2 := by
    rw [leT_3, decide_eq_true_eq] at h1 h2 ⊢
    omega
  tot x y := by
    rw [leT_3, leT_3, Bool.or_eq_true, decide_eq_true_eq, decide_eq_true_eq]
    omega
  anti x y h1 h2 := by
    rw [leT_3, decide_eq_true_eq] at h1 h2
    exact PySem.W.T3.same (by omega) (by omega) (by omega)
variable [DecidableEq a] [DatumOrd a] [LeOk a]
theorem sortT_perm (xs : List a) : (sortT xs).Perm xs := List.mergeSort_perm xs _
theorem sortT_sorted (xs : List a) : (sortT xs).Pairwise (fun x y => leT x y = true) := List.pairwise_mergeSort (fun x y z => LeOk.tr x y z) (fun x y => LeOk.tot x y) xs
theorem sortT_eq {xs ys : List a} (h : xs.Perm ys) : sortT xs = sortT ys :=
  perm_sorted_eq LeOk.anti ((sortT_perm xs).trans (h.trans (sortT_perm ys).symm)) (sortT_sorted xs) (sortT_sorted ys)
theorem sortT_id {xs : List a} (h : xs.Pairwise (fun x y => leT x y = true)) : sortT xs = xs := perm_sorted_eq LeOk.anti (sortT_perm xs) (sortT_sorted xs) h
theorem sortT_idem (xs : List a) : sortT (sortT xs) = sortT xs := sortT_id (sortT_sorted xs)
theorem sortT_len (xs : List a) : (sortT xs).length = xs.length := (sortT_perm xs).length_eq
theorem sortT_mem {xs : List a} {x : a} : x ∈ sortT xs ↔ x ∈ xs := (sortT_perm xs).mem_iff
end
/-! ### numbers -/
theorem cdivW {i j : Int} (h : 0 < j) (h2 : j ≤ 10 ^ 40) : CDivW i j := by
  have h3 : j.natAbs ≤ 10 ^ 40 := by omega
  exact wide_div (b := 200) h (Nat.lt_of_le_of_lt h3 (by decide)) (by decide) (by decide)
theorem cmulW {i j : Int} (h1 : i.natAbs < 2 ^ 100000) (h2 : j.natAbs < 2 ^ 100000) : CMulW i j := wide_mul h1 h2 (by decide) (by decide) (by decide)

theorem erase_perm {a : Type} : ∀ {l : List a} {j : Nat} (h : j < l.length), (l[j] :: l.eraseIdx j).Perm l
  | x :: l, 0, _ => List.Perm.refl _
  | x :: l, j + 1, h => by
    have h' : j < l.length := by simpa using h
    show (l[j] :: x :: l.eraseIdx j).Perm (x :: l)
    exact (List.Perm.swap _ _ _).trans (List.Perm.cons _ (erase_perm h'))

/-! ### trees -/
abbrev Tie := T3 Int Int Int
abbrev Tr := List Int × List Tie
def tieOf (p q c : Int) : Tie := if p ≤ q then ⟨p, q, c⟩ else ⟨q, p, c⟩
/-- place by place, each new one tied to one that is there -/
inductive Grown : List Int → List Tie → Prop
  | one (p : Int) : Grown [p] []
  | more {ps : List Int} {ts : List Tie} (q p c : Int) : Grown ps ts → q ∈ ps → p ∉ ps → Grown (ps ++ [p]) (ts ++ [tieOf p q c])
theorem tieOf_lt {p q c : Int} (h : p ≠ q) : (tieOf p q c).a < (tieOf p q c).b ∧ ((tieOf p q c).a = p ∧ (tieOf p q c).b = q ∨ (tieOf p q c).a = q ∧ (tieOf p q c).b = p) ∧ (tieOf p q c).c = c := by
  unfold tieOf
  by_cases h1 : p ≤ q
  · rw [if_pos h1]; exact ⟨by show p < q; omega, .inl ⟨rfl, rfl⟩, rfl⟩
  · rw [if_neg h1]; exact ⟨by show q < p; omega, .inr ⟨rfl, rfl⟩, rfl⟩
theorem Grown.in {ps : List Int} {ts : List Tie} (g : Grown ps ts) : ∀ t ∈ ts, t.a ∈ ps ∧ t.b ∈ ps ∧ t.a < t.b := by
  induction g with
  | one p => intro t h; cases h
  | @more ps ts q p c g hq hp ih =>
    intro t h
    rcases List.mem_append.mp h with h | h
    · obtain ⟨h1, h2, h3⟩ := ih t h
      exact ⟨List.mem_append_left _ h1, List.mem_append_left _ h2, h3⟩
    · have e := List.mem_singleton.mp h
      subst e
      have hpq : p ≠ q := fun e => hp (e ▸ hq)
      obtain ⟨l, hab, _⟩ := tieOf_lt (c := c) hpq
      have mp : p ∈ ps ++ [p] := by simp
      have mq : q ∈ ps ++ [p] := List.mem_append_left _ hq
      rcases hab with ⟨h1, h2⟩ | ⟨h1, h2⟩
      · exact ⟨by rw [h1]; exact mp, by rw [h2]; exact mq, l⟩
      · exact ⟨by rw [h1]; exact mq, by rw [h2]; exact mp, l⟩
theorem Grown.len {ps : List Int} {ts : List Tie} (g : Grown ps ts) : ps.length = ts.length + 1 := by
  induction g with
  | one p => rfl
  | more q p c g hq hp ih => rw [List.length_append, List.length_append, ih]; rfl
theorem Grown.nd {ps : List Int} {ts : List Tie} (g : Grown ps ts) : ps.Nodup := by
  induction g with
  | one p => simp
  | more q p c g hq hp ih => exact List.nodup_append.mpr ⟨ih, by simp, fun x hx y hy e => by rw [List.mem_singleton.mp hy] at e; exact hp (e ▸ hx)⟩
/-- a tree: its worths, its ties sorted -/
structure TreeOk (t : Tr) : Prop where
  ex : ∃ ps ts, Grown ps ts ∧ ps.Perm (rangeL 0 (t.1.length : Int)) ∧ t.2 = sortT ts
theorem TreeOk.pos {t : Tr} (h : TreeOk t) : 1 ≤ t.1.length := by
  obtain ⟨ps, ts, g, p, e⟩ := h.ex
  have h1 := p.length_eq
  rw [rangeL_length] at h1
  have := g.len
  omega
theorem TreeOk.len {t : Tr} (h : TreeOk t) : t.1.length = t.2.length + 1 := by
  obtain ⟨ps, ts, g, p, e⟩ := h.ex
  have h1 := p.length_eq
  rw [rangeL_length] at h1
  have := g.len
  rw [e, sortT_len]
  omega
theorem rangeL_mem' {lo hi x : Int} : x ∈ rangeL lo hi ↔ lo ≤ x ∧ x < hi := by
  unfold rangeL
  rw [List.mem_map]
  constructor
  · rintro ⟨j, hj, rfl⟩
    have := List.mem_range.mp hj
    omega
  · rintro ⟨h1, h2⟩
    exact ⟨(x - lo).toNat, List.mem_range.mpr (by omega), by omega⟩
theorem TreeOk.tie {t : Tr} (h : TreeOk t) : ∀ x ∈ t.2, 0 ≤ x.a ∧ x.a < x.b ∧ x.b < (t.1.length : Int) := by
  obtain ⟨ps, ts, g, p, e⟩ := h.ex
  intro x hx
  rw [e, sortT_mem] at hx
  obtain ⟨h1, h2, h3⟩ := g.in x hx
  have a1 := rangeL_mem'.mp (p.mem_iff.mp h1)
  have a2 := rangeL_mem'.mp (p.mem_iff.mp h2)
  exact ⟨a1.1, h3, a2.2⟩
theorem TreeOk.sorted {t : Tr} (h : TreeOk t) : sortT t.2 = t.2 := by
  obtain ⟨ps, ts, g, p, e⟩ := h.ex
  rw [e, sortT_idem]
theorem sort2 (x y : Int) : sortT [x, y] = if x ≤ y then [x, y] else [y, x] := by
  by_cases h : x ≤ y
  · rw [if_pos h]
    exact sortT_id (by simp [leT_int, h])
  · rw [if_neg h]
    have e : sortT [x, y] = sortT [y, x] := sortT_eq (List.Perm.swap _ _ _)
    rw [e]
    exact sortT_id (by simp [leT_int]; omega)

theorem fm_congr {a b : Type} {f g : a → Option b} : ∀ {l : List a}, (∀ x ∈ l, f x = g x) → l.filterMap f = l.filterMap g
  | [], _ => rfl
  | x :: l, h => by
    have h1 := h x List.mem_cons_self
    have h2 := fm_congr (l := l) fun y hy => h y (List.mem_cons_of_mem _ hy)
    rw [List.filterMap_cons, List.filterMap_cons, h1, h2]
end PG

set_option Elab.async false
set_option linter.all false
set_option maxRecDepth 100000
namespace G
open PySem PySem.Spec PyProof.Rows L2 PG
open PySem.W (T3 T4 Datum DatumOrd)
def top (i : Nat) : Stmt := PySem.Challenge.pw_everyseat_k05_no_place.main.body.getD i (.Pass ⟨0, 0, 0, 0⟩)
structure Nb (mg : Str → Option Value) : Prop where
  b_ValueError : mg "ValueError" = none
  b_isinstance : mg "isinstance" = none
  b_len : mg "len" = none
  b_list : mg "list" = none
  b_max : mg "max" = none
  b_min : mg "min" = none
  b_range : mg "range" = none
  b_sorted : mg "sorted" = none
  c_MOST : ∃ u, mg "MOST" = some u ∧ RelV (.int 3) u
structure ExA (K : PySem.W.Frag) (mg : Str → Option Value) (C_SeatError C_NoPlace C_NoRule C_NoForm C_NoLength C_NoName C_NoOrder C_NoPaper C_NoText C_NoTie C_NoTree : Addr) : Prop where
  g_SeatError : mg "SeatError" = some (.ref C_SeatError)
  d_SeatError : PySem.W.hasDictIn K C_SeatError = true
  t_SeatError : PySem.W.typeIn K (.ref C_SeatError) = some (.type "type")
  n_SeatError : PySem.W.subIn K (.type "NoneType") (.ref C_SeatError) = some false
  b_SeatError : PySem.W.subIn K (.ref C_SeatError) (.type "BaseException") = some true
  s_SeatError_SeatError : PySem.W.subIn K (.ref C_SeatError) (.ref C_SeatError) = some true
  g_NoPlace : mg "NoPlace" = some (.ref C_NoPlace)
  d_NoPlace : PySem.W.hasDictIn K C_NoPlace = true
  t_NoPlace : PySem.W.typeIn K (.ref C_NoPlace) = some (.type "type")
  n_NoPlace : PySem.W.subIn K (.type "NoneType") (.ref C_NoPlace) = some false
  b_NoPlace : PySem.W.subIn K (.ref C_NoPlace) (.type "BaseException") = some true
  s_NoPlace_NoPlace : PySem.W.subIn K (.ref C_NoPlace) (.ref C_NoPlace) = some true
  g_NoRule : mg "NoRule" = some (.ref C_NoRule)
  d_NoRule : PySem.W.hasDictIn K C_NoRule = true
  t_NoRule : PySem.W.typeIn K (.ref C_NoRule) = some (.type "type")
  n_NoRule : PySem.W.subIn K (.type "NoneType") (.ref C_NoRule) = some false
  b_NoRule : PySem.W.subIn K (.ref C_NoRule) (.type "BaseException") = some true
  s_NoRule_NoRule : PySem.W.subIn K (.ref C_NoRule) (.ref C_NoRule) = some true
  g_NoForm : mg "NoForm" = some (.ref C_NoForm)
  d_NoForm : PySem.W.hasDictIn K C_NoForm = true
  t_NoForm : PySem.W.typeIn K (.ref C_NoForm) = some (.type "type")
  n_NoForm : PySem.W.subIn K (.type "NoneType") (.ref C_NoForm) = some false
  b_NoForm : PySem.W.subIn K (.ref C_NoForm) (.type "BaseException") = some true
  s_NoForm_NoForm : PySem.W.subIn K (.ref C_NoForm) (.ref C_NoForm) = some true
  g_NoLength : mg "NoLength" = some (.ref C_NoLength)
  d_NoLength : PySem.W.hasDictIn K C_NoLength = true
  t_NoLength : PySem.W.typeIn K (.ref C_NoLength) = some (.type "type")
  n_NoLength : PySem.W.subIn K (.type "NoneType") (.ref C_NoLength) = some false
  b_NoLength : PySem.W.subIn K (.ref C_NoLength) (.type "BaseException") = some true
  s_NoLength_NoLength : PySem.W.subIn K (.ref C_NoLength) (.ref C_NoLength) = some true
  g_NoName : mg "NoName" = some (.ref C_NoName)
  d_NoName : PySem.W.hasDictIn K C_NoName = true
  t_NoName : PySem.W.typeIn K (.ref C_NoName) = some (.type "type")
  n_NoName : PySem.W.subIn K (.type "NoneType") (.ref C_NoName) = some false
  b_NoName : PySem.W.subIn K (.ref C_NoName) (.type "BaseException") = some true
  s_NoName_NoName : PySem.W.subIn K (.ref C_NoName) (.ref C_NoName) = some true
  g_NoOrder : mg "NoOrder" = some (.ref C_NoOrder)
  d_NoOrder : PySem.W.hasDictIn K C_NoOrder = true
  t_NoOrder : PySem.W.typeIn K (.ref C_NoOrder) = some (.type "type")
  n_NoOrder : PySem.W.subIn K (.type "NoneType") (.ref C_NoOrder) = some false
  b_NoOrder : PySem.W.subIn K (.ref C_NoOrder) (.type "BaseException") = some true
  s_NoOrder_NoOrder : PySem.W.subIn K (.ref C_NoOrder) (.ref C_NoOrder) = some true
  g_NoPaper : mg "NoPaper" = some (.ref C_NoPaper)
  d_NoPaper : PySem.W.hasDictIn K C_NoPaper = true
  t_NoPaper : PySem.W.typeIn K (.ref C_NoPaper) = some (.type "type")
  n_NoPaper : PySem.W.subIn K (.type "NoneType") (.ref C_NoPaper) = some false
  b_NoPaper : PySem.W.subIn K (.ref C_NoPaper) (.type "BaseException") = some true
  s_NoPaper_NoPaper : PySem.W.subIn K (.ref C_NoPaper) (.ref C_NoPaper) = some true
  g_NoText : mg "NoText" = some (.ref C_NoText)
  d_NoText : PySem.W.hasDictIn K C_NoText = true
  t_NoText : PySem.W.typeIn K (.ref C_NoText) = some (.type "type")
  n_NoText : PySem.W.subIn K (.type "NoneType") (.ref C_NoText) = some false
  b_NoText : PySem.W.subIn K (.ref C_NoText) (.type "BaseException") = some true
  s_NoText_NoText : PySem.W.subIn K (.ref C_NoText) (.ref C_NoText) = some true
  g_NoTie : mg "NoTie" = some (.ref C_NoTie)
  d_NoTie : PySem.W.hasDictIn K C_NoTie = true
  t_NoTie : PySem.W.typeIn K (.ref C_NoTie) = some (.type "type")
  n_NoTie : PySem.W.subIn K (.type "NoneType") (.ref C_NoTie) = some false
  b_NoTie : PySem.W.subIn K (.ref C_NoTie) (.type "BaseException") = some true
  s_NoTie_NoTie : PySem.W.subIn K (.ref C_NoTie) (.ref C_NoTie) = some true
  g_NoTree : mg "NoTree" = some (.ref C_NoTree)
  d_NoTree : PySem.W.hasDictIn K C_NoTree = true
  t_NoTree : PySem.W.typeIn K (.ref C_NoTree) = some (.type "type")
  n_NoTree : PySem.W.subIn K (.type "NoneType") (.ref C_NoTree) = some false
  b_NoTree : PySem.W.subIn K (.ref C_NoTree) (.type "BaseException") = some true
  s_NoTree_NoTree : PySem.W.subIn K (.ref C_NoTree) (.ref C_NoTree) = some true
  e_NoPlace : ExcC K C_NoPlace
  v_NoPlace : PySem.W.subIn K (.ref C_NoPlace) (.type "ValueError") = some true
  s_NoPlace_SeatError : PySem.W.subIn K (.ref C_NoPlace) (.ref C_SeatError) = some true
  s_NoPlace_NoRule : PySem.W.subIn K (.ref C_NoPlace) (.ref C_NoRule) = some false
  s_NoPlace_NoForm : PySem.W.subIn K (.ref C_NoPlace) (.ref C_NoForm) = some false
  s_NoPlace_NoLength : PySem.W.subIn K (.ref C_NoPlace) (.ref C_NoLength) = some false
  s_NoPlace_NoName : PySem.W.subIn K (.ref C_NoPlace) (.ref C_NoName) = some false
  s_NoPlace_NoOrder : PySem.W.subIn K (.ref C_NoPlace) (.ref C_NoOrder) = some false
  s_NoPlace_NoPaper : PySem.W.subIn K (.ref C_NoPlace) (.ref C_NoPaper) = some false
  s_NoPlace_NoText : PySem.W.subIn K (.ref C_NoPlace) (.ref C_NoText) = some false
  s_NoPlace_NoTie : PySem.W.subIn K (.ref C_NoPlace) (.ref C_NoTie) = some false
  s_NoPlace_NoTree : PySem.W.subIn K (.ref C_NoPlace) (.ref C_NoTree) = some false
  e_NoRule : ExcC K C_NoRule
  v_NoRule : PySem.W.subIn K (.ref C_NoRule) (.type "ValueError") = some true
  s_NoRule_SeatError : PySem.W.subIn K (.ref C_NoRule) (.ref C_SeatError) = some true
  s_NoRule_NoPlace : PySem.W.subIn K (.ref C_NoRule) (.ref C_NoPlace) = some false
  s_NoRule_NoForm : PySem.W.subIn K (.ref C_NoRule) (.ref C_NoForm) = some false
  s_NoRule_NoLength : PySem.W.subIn K (.ref C_NoRule) (.ref C_NoLength) = some false
  s_NoRule_NoName : PySem.W.subIn K (.ref C_NoRule) (.ref C_NoName) = some false
  s_NoRule_NoOrder : PySem.W.subIn K (.ref C_NoRule) (.ref C_NoOrder) = some false
  s_NoRule_NoPaper : PySem.W.subIn K (.ref C_NoRule) (.ref C_NoPaper) = some false
  s_NoRule_NoText : PySem.W.subIn K (.ref C_NoRule) (.ref C_NoText) = some false
  s_NoRule_NoTie : PySem.W.subIn K (.ref C_NoRule) (.ref C_NoTie) = some false
  s_NoRule_NoTree : PySem.W.subIn K (.ref C_NoRule) (.ref C_NoTree) = some false
structure ExAll (K : PySem.W.Frag) (mg : Str → Option Value) : Prop where
  ex : ∃ C_SeatError C_NoPlace C_NoRule C_NoForm C_NoLength C_NoName C_NoOrder C_NoPaper C_NoText C_NoTie C_NoTree : Addr, ExA K mg C_SeatError C_NoPlace C_NoRule C_NoForm C_NoLength C_NoName C_NoOrder C_NoPaper C_NoText C_NoTie C_NoTree
section
variable {P : Program} {w : World} {K : PySem.W.Frag} {mg : Str → Option Value} {base : Heap}
abbrev s_may_stand : Stmt := top 14
theorem sc_may_stand : FnScope ["told", "leaves", "many"] ["told", "leaves", "many"] (defScope s_may_stand) := ⟨rfl, rfl, rfl, by decide +kernel, rfl, by decide +kernel, by decide +kernel⟩
def m_may_stand : Nat → Sm → (Tp Str) → Int → M (Bool)
  | 0, _, _, _ => bad
  | k_ + 1, x_told, x_leaves, x_many =>
    if (Sm.word x_told) = ("number" : Str) then (
    .ok true)
    else (
    if (Sm.word x_told) ∈ ([(("own" : Str), ("tie" : Str)).1, (("own" : Str), ("tie" : Str)).2]) then (
    .ok (decide ((Sm.word x_told) ∈ (Tp.l x_leaves))))
    else (
    if (Sm.word x_told) ∈ ([(("so" : Str), ("more" : Str)).1, (("so" : Str), ("more" : Str)).2]) then (
    if (Sm.word x_told) ∈ (Tp.l x_leaves) then (
    opt (Sm.int? x_told) >>= fun y63 =>
    if (0 : Int) ≤ y63 then (
    .ok (decide (y63 < x_many)))
    else (
    .ok false))
    else (
    .ok false))
    else (
    opt (Sm.two? x_told) >>= fun y70 =>
    m_may_stand k_ y70.1 x_leaves x_many >>= fun r80 =>
    if r80 = true then (
    opt (Sm.two? x_told) >>= fun y87 =>
    m_may_stand k_ y87.2 x_leaves x_many >>= fun r97 =>
    .ok r97)
    else (
    .ok false))))
def sp_may_stand (k_ : Nat) (mg : Str → Option Value) : Sp := fun vs H Q E => ∃ (F : Hp) (v_told : V) (x_told : Sm) (v_leaves : V) (x_leaves : (Tp Str)) (x_many : Int), vs = [v_told, v_leaves, V.int x_many] ∧ Pre F [] H ∧ R (a := Sm) F v_told x_told ∧ R (a := (Tp Str)) F v_leaves x_leaves ∧
  wp (m_may_stand k_ x_told x_leaves x_many) (fun r => ∀ (F' H' : Hp), Gr [] F H F' H' → Q (V.bl r) H')
  (fun n => ∀ (C : Addr) (H' : Hp), mg (Str.ofString n) = some (.ref C) → Kp [] H H' → E (.ref C) none H')
set_option maxHeartbeats 2000000 in
theorem ok_may_stand (nb : Nb mg) (D : Df K mg "may_stand" "may_stand" s_may_stand ["told", "leaves", "many"]) : ∀ k_ : Nat, Ca P w K mg base "may_stand" (k_ + 1) ["told", "leaves", "many"] (sp_may_stand k_ mg) := by
  intro k_
  induction k_ with
  | zero =>
    refine Ca.mk' D sc_may_stand (fun vs H Q E h => ?_) (fun q_ f_ cdv A outer s H vs Q E hr h => ?_)
    · obtain ⟨F, _, _, _, _, _, rfl, _⟩ := h
      rfl
    · obtain ⟨F, _, _, _, _, _, rfl, _, _, _, hk⟩ := h
      exact hk.elim
  | succ k_ ih_ =>
    have C_may_stand := ih_
    obtain ⟨fa_may_stand, fd_may_stand, G_may_stand, M_may_stand, K_may_stand, B_may_stand⟩ := C_may_stand.ex
    refine Ca.mk' D sc_may_stand (fun vs H Q E h => ?_) (fun q_ f_ cdv A outer s H vs Q E hr h => ?_)
    · obtain ⟨F, _, _, _, _, _, rfl, _⟩ := h
      rfl
    · obtain ⟨F, v_told, x_told, v_leaves, x_leaves, x_many, rfl, P0, f_told, f_leaves, hk⟩ := h
      have nd := sc_may_stand.nd
      have hu64 := hr.units
      have hu128 := hu128_of hr
      have O := P0.start
      refine ⟨_, (pss_cons (ps_if (pt_cmpR (op_eqT Str hu64) (pe_ix (ixTupK (K := K) rfl) (pv 0) pe_int (fun _ _ => rfl)) pe_str (nomark _)) (pss_one (ps_ret pe_bl)) pss_nil)
  (pss_cons (ps_if (pt_cmpR (op_inT Str hu64) (pe_ix (ixTupK (K := K) rfl) (pv 0) pe_int (fun _ _ => rfl)) (pe_tup (pa_cons pe_str (pa_cons pe_str pa_nil))) rfl) (pss_one (ps_ret (pe_cmpR (op_inT Str hu64) (pe_ix (ixTupK (K := K) rfl) (pv 0) pe_int (fun _ _ => rfl)) (pv 1) rfl))) pss_nil)
  (pss_cons (ps_if (pt_cmpR (op_inT Str hu64) (pe_ix (ixTupK (K := K) rfl) (pv 0) pe_int (fun _ _ => rfl)) (pe_tup (pa_cons pe_str (pa_cons pe_str pa_nil))) rfl) (pss_one (ps_ret (pe_and (pe_cmpR (op_inT Str hu64) (pe_ix (ixTupK (K := K) rfl) (pv 0) pe_int (fun _ _ => rfl)) (pv 1) rfl) (pe_one (pe_chain op_le op_lt pe_int (pe_ix (ixTupK (K := K) rfl) (pv 0) pe_int (fun _ _ => rfl)) (pv 2)))))) pss_nil)
  (pss_one (ps_ret (pe_and (pe_call G_may_stand (hr.mono (by omega)) rfl M_may_stand K_may_stand B_may_stand .nil (passes_call (takes_of rfl rfl rfl rfl) fun _ _ _ _ h => h) (pa_cons (pe_ix (ixTupK (K := K) rfl) (pv 0) pe_int (fun _ _ => rfl)) (pa_cons (pv 1) (pa_cons (pv 2) pa_nil)))) (pe_one (pe_call G_may_stand (hr.mono (by omega)) rfl M_may_stand K_may_stand B_may_stand .nil (passes_call (takes_of rfl rfl rfl rfl) fun _ _ _ _ h => h) (pa_cons (pe_ix (ixTupK (K := K) rfl) (pv 0) pe_int (fun _ _ => rfl)) (pa_cons (pv 1) (pa_cons (pv 2) pa_nil))))))))))), ?_⟩
      obtain ⟨p1, w2, e3, h4⟩ := R.sm_ f_told
      cases e3
      refine ⟨_, rfl, _, _, _, _, rfl, rfl, (SqTF O.s h4), (atI0 _ _), _, _, R.str, R.str, _, rfl, ?_⟩
      refine iteD (fun q5 => ?_) (fun q5 => ?_)
      · have hk := wp_if hk q5
        exact hk _ _  O.g 
      · have hk := wp_el hk q5
        obtain ⟨p6, w7, e8, h9⟩ := R.sm_ f_told
        cases e8
        refine ⟨_, rfl, _, _, _, _, rfl, rfl, (SqTF O.s h9), (atI0 _ _), (by show 2 ≤ sizeLine; decide), fun p10 hp11 => ?_⟩
        obtain ⟨F12, O13, S14, h15⟩ := O.putE hp11 (.tup [V.str ("own" : Str), V.str ("tie" : Str)])
        have f_told := f_told.mono S14
        have f_leaves := f_leaves.mono S14
        have h4 := S14 _ _ h4
        have h9 := S14 _ _ h9
        have h16 : R (a := (Str × Str)) F12 (.ref p10) (("own" : Str), ("tie" : Str)) := R.t2 h15 R.str R.str
        obtain ⟨p17, v20, v21, e18, h19, r22, r23⟩ := R.t2_ h16
        cases e18
        obtain rfl := R.str_ r22
        obtain rfl := R.str_ r23
        refine ⟨_, _, _, _, R.str, rfl, (.inr (O13.s _ _ h19)), (RL.mono (RL.cons R.str (RL.cons R.str RL.nil)) O13.s), _, rfl, ?_⟩
        refine iteD (fun q24 => ?_) (fun q24 => ?_)
        · have hk := wp_if hk q24
          obtain ⟨p25, w26, e27, h28⟩ := R.sm_ f_told
          cases e27
          obtain ⟨p29, w30, e31, h32, hl33⟩ := R.tp_ f_leaves
          cases e31
          refine ⟨_, rfl, _, _, _, _, rfl, rfl, (SqTF O13.s h28), (atI0 _ _), _, rfl, _, _, _, _, R.str, rfl, (.inr (O13.s _ _ h32)), (RL.mono (hl33) O13.s), ?_⟩
          exact hk _ _  O13.g 
        · have hk := wp_el hk q24
          obtain ⟨p34, w35, e36, h37⟩ := R.sm_ f_told
          cases e36
          refine ⟨_, rfl, _, _, _, _, rfl, rfl, (SqTF O13.s h37), (atI0 _ _), (by show 2 ≤ sizeLine; decide), fun p38 hp39 => ?_⟩
          obtain ⟨F40, O41, S42, h43⟩ := O13.putE hp39 (.tup [V.str ("so" : Str), V.str ("more" : Str)])
          have f_told := f_told.mono S42
          have f_leaves := f_leaves.mono S42
          have h4 := S42 _ _ h4
          have h9 := S42 _ _ h9
          have h16 := h16.mono S42
          have h19 := S42 _ _ h19
          have h37 := S42 _ _ h37
          have h44 : R (a := (Str × Str)) F40 (.ref p38) (("so" : Str), ("more" : Str)) := R.t2 h43 R.str R.str
          obtain ⟨p45, v48, v49, e46, h47, r50, r51⟩ := R.t2_ h44
          cases e46
          obtain rfl := R.str_ r50
          obtain rfl := R.str_ r51
          refine ⟨_, _, _, _, R.str, rfl, (.inr (O41.s _ _ h47)), (RL.mono (RL.cons R.str (RL.cons R.str RL.nil)) O41.s), _, rfl, ?_⟩
          refine iteD (fun q52 => ?_) (fun q52 => ?_)
          · have hk := wp_if hk q52
            obtain ⟨p53, w54, e55, h56⟩ := R.sm_ f_told
            cases e55
            obtain ⟨p57, w58, e59, h60, hl61⟩ := R.tp_ f_leaves
            cases e59
            refine ⟨_, rfl, _, _, _, _, rfl, rfl, (SqTF O41.s h56), (atI0 _ _), _, rfl, _, _, _, _, R.str, rfl, (.inr (O41.s _ _ h60)), (RL.mono (hl61) O41.s), _, rfl, ?_⟩
            refine iteD (fun q62 => ?_) (fun q62 => ?_)
            · have hk := wp_if hk q62
              obtain ⟨y63, e64, hk⟩ := wp_opt hk
              obtain ⟨p65, w66, e67, h68⟩ := R.sm_int f_told e64
              cases e67
              refine ⟨_, rfl, _, _, _, _, rfl, rfl, (SqTF O41.s h68), rfl, _, _, rfl, rfl, _, rfl, ?_⟩
              refine iteD (fun q69 => ?_) (fun q69 => ?_)
              · have hk := wp_if hk q69
                refine ⟨_, rfl, _, _, rfl, rfl, ?_⟩
                exact hk _ _  O41.g 
              · have hk := wp_el hk q69
                exact hk _ _  O41.g 
            · have hk := wp_el hk q62
              exact hk _ _  O41.g 
          · have hk := wp_el hk q52
            obtain ⟨y70, e71, hk⟩ := wp_opt hk
            obtain ⟨p72, w73, v74, v75, e76, h77, r78, r79⟩ := R.sm_two f_told e71
            cases e76
            refine ⟨_, rfl, _, _, _, _, rfl, rfl, (SqTF O41.s h77), rfl, _, rfl, _, rfl, _, _, _, _, _, _, rfl, O41.pre0, r78, f_leaves, wp_call hk (fun r80 er81 hk F82 H83 g84 => ?_) (fun n hn C H1 hC kp => hn C H1 hC (O41.kp0 kp))⟩
            have O85 := O41.call0 g84
            have S_ := g84.f
            have f_told := f_told.mono S_
            have f_leaves := f_leaves.mono S_
            have h4 := S_ _ _ h4
            have h9 := S_ _ _ h9
            have h16 := h16.mono S_
            have h19 := S_ _ _ h19
            have h37 := S_ _ _ h37
            have h44 := h44.mono S_
            have h47 := S_ _ _ h47
            have h77 := S_ _ _ h77
            have r78 := r78.mono S_
            have r79 := r79.mono S_
            refine ⟨_, rfl, ?_⟩
            refine iteB (fun q86 => ?_) (fun q86 => ?_)
            · have hk := wp_if hk q86
              obtain ⟨y87, e88, hk⟩ := wp_opt hk
              obtain ⟨p89, w90, v91, v92, e93, h94, r95, r96⟩ := R.sm_two f_told e88
              cases e93
              refine ⟨_, rfl, _, _, _, _, rfl, rfl, (SqTF O85.s h94), rfl, _, rfl, _, rfl, _, _, _, _, _, _, rfl, O85.pre0, r96, f_leaves, wp_call hk (fun r97 er98 hk F99 H100 g101 => ?_) (fun n hn C H1 hC kp => hn C H1 hC (O85.kp0 kp))⟩
              have O102 := O85.call0 g101
              have S_ := g101.f
              have f_told := f_told.mono S_
              have f_leaves := f_leaves.mono S_
              have h4 := S_ _ _ h4
              have h9 := S_ _ _ h9
              have h16 := h16.mono S_
              have h19 := S_ _ _ h19
              have h37 := S_ _ _ h37
              have h44 := h44.mono S_
              have h47 := S_ _ _ h47
              have h77 := S_ _ _ h77
              have r78 := r78.mono S_
              have r79 := r79.mono S_
              have h94 := S_ _ _ h94
              have r95 := r95.mono S_
              have r96 := r96.mono S_
              exact hk _ _  O102.g 
            · have hk := wp_el hk q86
              exact hk _ _  O85.g 
abbrev s_is_rule : Stmt := top 15
theorem sc_is_rule : FnScope ["thing", "many", "begin", "over", "join", "told", "sums", "leaves", "one"] ["thing"] (defScope s_is_rule) := ⟨rfl, rfl, rfl, by decide +kernel, rfl, by decide +kernel, by decide +kernel⟩
def m_is_rule (x_thing : (T4 (List Sm) (List Sm) (List Sm) Sm)) : M (Bool) :=
if (1 : Int) ≤ (x_thing.a.length : Int) then (
if (x_thing.a.length : Int) ≤ (3 : Int) then (
if (x_thing.b.length : Int) ≠ (x_thing.a.length : Int) then (
.ok false)
else (
if (x_thing.c.length : Int) ≠ (x_thing.a.length : Int) then (
.ok false)
else (
loopM (fun (y93 : ((List Sm) × (Tp Str))) (st104 : Unit) =>
compS (fun (y123 : Sm) (st140 : Unit) =>
m_may_stand 60 y123 y93.2 (x_thing.a.length : Int) >>= fun r146 =>
if r146 = true then (
.ok (none, ()))
else (
.ok (some y123, ()))) y93.1 () >>= fun q164 =>
if q164.1 ≠ ([] : List Sm) then (
.ok (.rt false))
else (
.ok (.nx ()))) ([(T3.mk (x_thing.a, (Tp.mk [("own" : Str)])) (x_thing.b, (Tp.mk [(T3.mk ("own" : Str) ("tie" : Str) ("more" : Str)).a, (T3.mk ("own" : Str) ("tie" : Str) ("more" : Str)).b, (T3.mk ("own" : Str) ("tie" : Str) ("more" : Str)).c])) (x_thing.c, (Tp.mk [(T3.mk ("own" : Str) ("so" : Str) ("more" : Str)).a, (T3.mk ("own" : Str) ("so" : Str) ("more" : Str)).b, (T3.mk ("own" : Str) ("so" : Str) ("more" : Str)).c]))).a, (T3.mk (x_thing.a, (Tp.mk [("own" : Str)])) (x_thing.b, (Tp.mk [(T3.mk ("own" : Str) ("tie" : Str) ("more" : Str)).a, (T3.mk ("own" : Str) ("tie" : Str) ("more" : Str)).b, (T3.mk ("own" : Str) ("tie" : Str) ("more" : Str)).c])) (x_thing.c, (Tp.mk [(T3.mk ("own" : Str) ("so" : Str) ("more" : Str)).a, (T3.mk ("own" : Str) ("so" : Str) ("more" : Str)).b, (T3.mk ("own" : Str) ("so" : Str) ("more" : Str)).c]))).b, (T3.mk (x_thing.a, (Tp.mk [("own" : Str)])) (x_thing.b, (Tp.mk [(T3.mk ("own" : Str) ("tie" : Str) ("more" : Str)).a, (T3.mk ("own" : Str) ("tie" : Str) ("more" : Str)).b, (T3.mk ("own" : Str) ("tie" : Str) ("more" : Str)).c])) (x_thing.c, (Tp.mk [(T3.mk ("own" : Str) ("so" : Str) ("more" : Str)).a, (T3.mk ("own" : Str) ("so" : Str) ("more" : Str)).b, (T3.mk ("own" : Str) ("so" : Str) ("more" : Str)).c]))).c]) () >>= fun f188 => match f188 with
| .rt z_ => .ok z_
| .nx st182 =>
m_may_stand 60 x_thing.d (Tp.mk [(("own" : Str), ("so" : Str)).1, (("own" : Str), ("so" : Str)).2]) (x_thing.a.length : Int) >>= fun r196 =>
.ok r196)))
else (
.ok false))
else (
.ok false)
def sp_is_rule (mg : Str → Option Value) : Sp := fun vs H Q E => ∃ (F : Hp) (v_thing : V) (x_thing : (T4 (List Sm) (List Sm) (List Sm) Sm)), vs = [v_thing] ∧ Pre F [] H ∧ R (a := (T4 (List Sm) (List Sm) (List Sm) Sm)) F v_thing x_thing ∧
  wp (m_is_rule x_thing) (fun r => ∀ (F' H' : Hp), Gr [] F H F' H' → Q (V.bl r) H')
  (fun n => ∀ (C : Addr) (H' : Hp), mg (Str.ofString n) = some (.ref C) → Kp [] H H' → E (.ref C) none H')
set_option maxHeartbeats 2000000 in
theorem ok_is_rule (nb : Nb mg) (C_may_stand : Ca P w K mg base "may_stand" 61 ["told", "leaves", "many"] (sp_may_stand 60 mg)) (D : Df K mg "is_rule" "is_rule" s_is_rule ["thing"]) : Ca P w K mg base "is_rule" 62 ["thing"] (sp_is_rule mg) := by
  obtain ⟨fa_may_stand, fd_may_stand, G_may_stand, M_may_stand, K_may_stand, B_may_stand⟩ := C_may_stand.ex
  refine Ca.mk' D sc_is_rule (fun vs H Q E h => ?_) (fun q_ f_ cdv A outer s H vs Q E hr h => ?_)
  · obtain ⟨F, _, _, rfl, _⟩ := h
    rfl
  · obtain ⟨F, v_thing, x_thing, rfl, P0, f_thing, hk⟩ := h
    have nd := sc_is_rule.nd
    have hu64 := hr.units
    have hu128 := hu128_of hr
    have O := P0.start
    refine ⟨_, (pss_cons (ps_asg (pv 0) (pg_tup rfl (pgs_cons (pg_name (i := 2) nd rfl (Or.inl rfl)) (pgs_cons (pg_name (i := 3) nd rfl (Or.inl rfl)) (pgs_cons (pg_name (i := 4) nd rfl (Or.inl rfl)) (pgs_cons (pg_name (i := 5) nd rfl (Or.inl rfl)) pgs_nil))))))
  (pss_cons (ps_set (i := 1) nd rfl (Or.inr rfl) (pe_callB call_lenT (by rfl) nb.b_len PySem.boot_len (pa_cons (pv 2) pa_nil)))
  (pss_cons (ps_if (PW.pt (pw_or (pt_not (pt_chain op_le op_le pe_int (pv 1) (C8.pe_gc (by rfl) nb.c_MOST))) (pw_or (pt_cmpR (op_neT Int hu64) (pe_callB call_lenT (by rfl) nb.b_len PySem.boot_len (pa_cons (pv 3) pa_nil)) (pv 1) (nomark _)) (pw_or1 (pt_cmpR (op_neT Int hu64) (pe_callB call_lenT (by rfl) nb.b_len PySem.boot_len (pa_cons (pv 4) pa_nil)) (pv 1) (nomark _)))))) (pss_one (ps_ret pe_bl)) pss_nil)
  (pss_cons (ps_for (passes_of rfl) rfl (pi_tup (pe_tup (pa_cons (pe_tup (pa_cons (pv 2) (pa_cons (pe_tup (pa_cons pe_str pa_nil)) pa_nil))) (pa_cons (pe_tup (pa_cons (pv 3) (pa_cons (pe_tup (pa_cons pe_str (pa_cons pe_str (pa_cons pe_str pa_nil)))) pa_nil))) (pa_cons (pe_tup (pa_cons (pv 4) (pa_cons (pe_tup (pa_cons pe_str (pa_cons pe_str (pa_cons pe_str pa_nil)))) pa_nil))) pa_nil))))) (pg_tup rfl (pgs_cons (pg_name (i := 6) nd rfl (Or.inl rfl)) (pgs_cons (pg_name (i := 7) nd rfl (Or.inr rfl)) pgs_nil))) (pss_one (ps_if (pt_cmpR (op_neX (List Sm) hu64) (pe_lc (own := [("one", 8)]) (g := gName 8) (tt := _) rfl nd (pi_list (pv 6)) (blkOk_by (own := [("one", 8)]) (N := ["thing", "many", "begin", "over", "join", "told", "sums", "leaves", "one"]) (sc := defScope s_is_rule) (by decide +kernel)) (fun _ _ _ _ _ => (pg_name (i := 8) nd rfl (Or.inl rfl))) (fun _ _ _ _ _ => (pts_one (pt_not (pt_val (pe_call G_may_stand (hr.mono (by decide)) rfl M_may_stand K_may_stand B_may_stand .nil passL (pa_cons (pv 8) (pa_cons (pv 7) (pa_cons (pv 1) pa_nil)))))))) (fun _ _ _ _ _ => (pv 8))) (pe_lst pa_nil) (nomark _)) (pss_one (ps_ret pe_bl)) pss_nil)))
  (pss_one (ps_ret (pe_call G_may_stand (hr.mono (by decide)) rfl M_may_stand K_may_stand B_may_stand .nil (passes_call (takes_of rfl rfl rfl rfl) fun _ _ _ _ h => h) (pa_cons (pv 5) (pa_cons (pe_tup (pa_cons pe_str (pa_cons pe_str pa_nil))) (pa_cons (pv 1) pa_nil)))))))))), ?_⟩
    obtain ⟨p1, v4, v5, v6, v7, e2, h3, r8, r9, r10, r11⟩ := R.t4_ f_thing
    cases e2
    obtain ⟨p12, w13, e14, h15, hl16⟩ := R.lst_ r8
    cases e14
    refine ⟨_, rfl, _, _, rfl, (SqTF O.s h3), rfl, _, _, rfl, _, _, rfl, _, _, rfl, _, _, rfl, rfl, _, rfl, _, _, _, rfl, (.inl (O.s _ _ h15)), hl16.len, _, rfl, _, _, rfl, rfl, _, rfl, ?_⟩
    refine iteD (fun q17 => ?_) (fun q17 => ?_)
    · have hk := wp_if hk q17
      refine ⟨_, _, rfl, rfl, _, rfl, ?_⟩
      refine iteN (fun q18 => ?_) (fun q18 => ?_)
      · have hk := wp_if hk q18
        obtain ⟨p19, w20, e21, h22, hl23⟩ := R.lst_ r9
        cases e21
        refine ⟨_, rfl, _, _, _, rfl, (.inl (O.s _ _ h22)), hl23.len, _, rfl, _, _, R.int, R.int, _, rfl, ?_⟩
        refine iteD (fun q24 => ?_) (fun q24 => ?_)
        · have hk := wp_if hk q24
          refine iteT ?_
          exact hk _ _  O.g 
        · have hk := wp_el hk q24
          obtain ⟨p25, w26, e27, h28, hl29⟩ := R.lst_ r10
          cases e27
          refine ⟨_, rfl, _, _, _, rfl, (.inl (O.s _ _ h28)), hl29.len, _, rfl, _, _, R.int, R.int, _, rfl, ?_⟩
          refine iteD (fun q30 => ?_) (fun q30 => ?_)
          · have hk := wp_if hk q30
            exact hk _ _  O.g 
          · have hk := wp_el hk q30
            refine ⟨_, rfl, (by show 1 ≤ sizeLine; decide), fun p31 hp32 => ?_⟩
            obtain ⟨F33, O34, S35, h36⟩ := O.putE hp32 (.tup [V.str ("own" : Str)])
            have f_thing := f_thing.mono S35
            have h3 := S35 _ _ h3
            have r8 := r8.mono S35
            have r9 := r9.mono S35
            have r10 := r10.mono S35
            have r11 := r11.mono S35
            have h15 := S35 _ _ h15
            have hl16 := hl16.mono S35
            have h22 := S35 _ _ h22
            have hl23 := hl23.mono S35
            have h28 := S35 _ _ h28
            have hl29 := hl29.mono S35
            have h37 := R.of_nam h36
            refine ⟨(by show 2 ≤ sizeLine; decide), fun p38 hp39 => ?_⟩
            have h45 := (R.tp1 h37)
            obtain ⟨F40, O41, S42, h43⟩ := O34.putE hp39 (.tup [V.ref p12, V.ref p31])
            have f_thing := f_thing.mono S42
            have h3 := S42 _ _ h3
            have r8 := r8.mono S42
            have r9 := r9.mono S42
            have r10 := r10.mono S42
            have r11 := r11.mono S42
            have h15 := S42 _ _ h15
            have hl16 := hl16.mono S42
            have h22 := S42 _ _ h22
            have hl23 := hl23.mono S42
            have h28 := S42 _ _ h28
            have hl29 := hl29.mono S42
            have h37 := h37.mono S42
            have h45 := h45.mono S42
            have h44 : R (a := ((List Sm) × (Tp Str))) F40 (.ref p38) (x_thing.a, (Tp.mk [("own" : Str)])) := R.t2 h43 r8 h45
            refine ⟨_, rfl, (by show 3 ≤ sizeLine; decide), fun p46 hp47 => ?_⟩
            obtain ⟨F48, O49, S50, h51⟩ := O41.putE hp47 (.tup [V.str ("own" : Str), V.str ("tie" : Str), V.str ("more" : Str)])
            have f_thing := f_thing.mono S50
            have h3 := S50 _ _ h3
            have r8 := r8.mono S50
            have r9 := r9.mono S50
            have r10 := r10.mono S50
            have r11 := r11.mono S50
            have h15 := S50 _ _ h15
            have hl16 := hl16.mono S50
            have h22 := S50 _ _ h22
            have hl23 := hl23.mono S50
            have h28 := S50 _ _ h28
            have hl29 := hl29.mono S50
            have h37 := h37.mono S50
            have h45 := h45.mono S50
            have h44 := h44.mono S50
            have h52 : R (a := (T3 Str Str Str)) F48 (.ref p46) (T3.mk ("own" : Str) ("tie" : Str) ("more" : Str)) := R.t3 h51 R.str R.str R.str
            refine ⟨(by show 2 ≤ sizeLine; decide), fun p53 hp54 => ?_⟩
            have h60 := (R.tp3 h52)
            obtain ⟨F55, O56, S57, h58⟩ := O49.putE hp54 (.tup [V.ref p19, V.ref p46])
            have f_thing := f_thing.mono S57
            have h3 := S57 _ _ h3
            have r8 := r8.mono S57
            have r9 := r9.mono S57
            have r10 := r10.mono S57
            have r11 := r11.mono S57
            have h15 := S57 _ _ h15
            have hl16 := hl16.mono S57
            have h22 := S57 _ _ h22
            have hl23 := hl23.mono S57
            have h28 := S57 _ _ h28
            have hl29 := hl29.mono S57
            have h37 := h37.mono S57
            have h45 := h45.mono S57
            have h44 := h44.mono S57
            have h52 := h52.mono S57
            have h60 := h60.mono S57
            have h59 : R (a := ((List Sm) × (Tp Str))) F55 (.ref p53) (x_thing.b, (Tp.mk [(T3.mk ("own" : Str) ("tie" : Str) ("more" : Str)).a, (T3.mk ("own" : Str) ("tie" : Str) ("more" : Str)).b, (T3.mk ("own" : Str) ("tie" : Str) ("more" : Str)).c])) := R.t2 h58 r9 h60
            refine ⟨_, rfl, (by show 3 ≤ sizeLine; decide), fun p61 hp62 => ?_⟩
            obtain ⟨F63, O64, S65, h66⟩ := O56.putE hp62 (.tup [V.str ("own" : Str), V.str ("so" : Str), V.str ("more" : Str)])
            have f_thing := f_thing.mono S65
            have h3 := S65 _ _ h3
            have r8 := r8.mono S65
            have r9 := r9.mono S65
            have r10 := r10.mono S65
            have r11 := r11.mono S65
            have h15 := S65 _ _ h15
            have hl16 := hl16.mono S65
            have h22 := S65 _ _ h22
            have hl23 := hl23.mono S65
            have h28 := S65 _ _ h28
            have hl29 := hl29.mono S65
            have h37 := h37.mono S65
            have h45 := h45.mono S65
            have h44 := h44.mono S65
            have h52 := h52.mono S65
            have h60 := h60.mono S65
            have h59 := h59.mono S65
            have h67 : R (a := (T3 Str Str Str)) F63 (.ref p61) (T3.mk ("own" : Str) ("so" : Str) ("more" : Str)) := R.t3 h66 R.str R.str R.str
            refine ⟨(by show 2 ≤ sizeLine; decide), fun p68 hp69 => ?_⟩
            have h75 := (R.tp3 h67)
            obtain ⟨F70, O71, S72, h73⟩ := O64.putE hp69 (.tup [V.ref p25, V.ref p61])
            have f_thing := f_thing.mono S72
            have h3 := S72 _ _ h3
            have r8 := r8.mono S72
            have r9 := r9.mono S72
            have r10 := r10.mono S72
            have r11 := r11.mono S72
            have h15 := S72 _ _ h15
            have hl16 := hl16.mono S72
            have h22 := S72 _ _ h22
            have hl23 := hl23.mono S72
            have h28 := S72 _ _ h28
            have hl29 := hl29.mono S72
            have h37 := h37.mono S72
            have h45 := h45.mono S72
            have h44 := h44.mono S72
            have h52 := h52.mono S72
            have h60 := h60.mono S72
            have h59 := h59.mono S72
            have h67 := h67.mono S72
            have h75 := h75.mono S72
            have h74 : R (a := ((List Sm) × (Tp Str))) F70 (.ref p68) (x_thing.c, (Tp.mk [(T3.mk ("own" : Str) ("so" : Str) ("more" : Str)).a, (T3.mk ("own" : Str) ("so" : Str) ("more" : Str)).b, (T3.mk ("own" : Str) ("so" : Str) ("more" : Str)).c])) := R.t2 h73 r10 h75
            refine ⟨(by show 3 ≤ sizeLine; decide), fun p76 hp77 => ?_⟩
            obtain ⟨F78, O79, S80, h81⟩ := O71.putE hp77 (.tup [V.ref p38, V.ref p53, V.ref p68])
            have f_thing := f_thing.mono S80
            have h3 := S80 _ _ h3
            have r8 := r8.mono S80
            have r9 := r9.mono S80
            have r10 := r10.mono S80
            have r11 := r11.mono S80
            have h15 := S80 _ _ h15
            have hl16 := hl16.mono S80
            have h22 := S80 _ _ h22
            have hl23 := hl23.mono S80
            have h28 := S80 _ _ h28
            have hl29 := hl29.mono S80
            have h37 := h37.mono S80
            have h45 := h45.mono S80
            have h44 := h44.mono S80
            have h52 := h52.mono S80
            have h60 := h60.mono S80
            have h59 := h59.mono S80
            have h67 := h67.mono S80
            have h75 := h75.mono S80
            have h74 := h74.mono S80
            have h82 : R (a := (T3 ((List Sm) × (Tp Str)) ((List Sm) × (Tp Str)) ((List Sm) × (Tp Str)))) F78 (.ref p76) (T3.mk (x_thing.a, (Tp.mk [("own" : Str)])) (x_thing.b, (Tp.mk [(T3.mk ("own" : Str) ("tie" : Str) ("more" : Str)).a, (T3.mk ("own" : Str) ("tie" : Str) ("more" : Str)).b, (T3.mk ("own" : Str) ("tie" : Str) ("more" : Str)).c])) (x_thing.c, (Tp.mk [(T3.mk ("own" : Str) ("so" : Str) ("more" : Str)).a, (T3.mk ("own" : Str) ("so" : Str) ("more" : Str)).b, (T3.mk ("own" : Str) ("so" : Str) ("more" : Str)).c]))) := R.t3 h81 h44 h59 h74
            obtain ⟨p83, v86, v87, v88, e84, h85, r89, r90, r91⟩ := R.t3_ h82
            cases e84
            have hl92 : RL (a := ((List Sm) × (Tp Str))) F78 [v86, v87, v88] [(T3.mk (x_thing.a, (Tp.mk [("own" : Str)])) (x_thing.b, (Tp.mk [(T3.mk ("own" : Str) ("tie" : Str) ("more" : Str)).a, (T3.mk ("own" : Str) ("tie" : Str) ("more" : Str)).b, (T3.mk ("own" : Str) ("tie" : Str) ("more" : Str)).c])) (x_thing.c, (Tp.mk [(T3.mk ("own" : Str) ("so" : Str) ("more" : Str)).a, (T3.mk ("own" : Str) ("so" : Str) ("more" : Str)).b, (T3.mk ("own" : Str) ("so" : Str) ("more" : Str)).c]))).a, (T3.mk (x_thing.a, (Tp.mk [("own" : Str)])) (x_thing.b, (Tp.mk [(T3.mk ("own" : Str) ("tie" : Str) ("more" : Str)).a, (T3.mk ("own" : Str) ("tie" : Str) ("more" : Str)).b, (T3.mk ("own" : Str) ("tie" : Str) ("more" : Str)).c])) (x_thing.c, (Tp.mk [(T3.mk ("own" : Str) ("so" : Str) ("more" : Str)).a, (T3.mk ("own" : Str) ("so" : Str) ("more" : Str)).b, (T3.mk ("own" : Str) ("so" : Str) ("more" : Str)).c]))).b, (T3.mk (x_thing.a, (Tp.mk [("own" : Str)])) (x_thing.b, (Tp.mk [(T3.mk ("own" : Str) ("tie" : Str) ("more" : Str)).a, (T3.mk ("own" : Str) ("tie" : Str) ("more" : Str)).b, (T3.mk ("own" : Str) ("tie" : Str) ("more" : Str)).c])) (x_thing.c, (Tp.mk [(T3.mk ("own" : Str) ("so" : Str) ("more" : Str)).a, (T3.mk ("own" : Str) ("so" : Str) ("more" : Str)).b, (T3.mk ("own" : Str) ("so" : Str) ("more" : Str)).c]))).c] := RL.cons r89 (RL.cons r90 (RL.cons r91 RL.nil))
            obtain ⟨L94, hL95, hLs96, hLd97⟩ := loopM_L hk
            refine ⟨_, rfl, ⟨_, (SqTF O79.s h85)⟩, ?_⟩
            refine for_tup (K := K) (xs := [v86, v87, v88]) (fun i σ H => ∃ (F_ : Hp) (st : Unit) (t_0 : Option V) (t_1 : Option V), σ = [some (V.ref p1), some (V.int (x_thing.a.length : Int)), some (V.ref p12), some (V.ref p19), some (V.ref p25), some v7, t_0, t_1, none] ∧ Same F78 F_ ∧ Ow _ F_ [] H ∧ L94 (List.drop i ([(T3.mk (x_thing.a, (Tp.mk [("own" : Str)])) (x_thing.b, (Tp.mk [(T3.mk ("own" : Str) ("tie" : Str) ("more" : Str)).a, (T3.mk ("own" : Str) ("tie" : Str) ("more" : Str)).b, (T3.mk ("own" : Str) ("tie" : Str) ("more" : Str)).c])) (x_thing.c, (Tp.mk [(T3.mk ("own" : Str) ("so" : Str) ("more" : Str)).a, (T3.mk ("own" : Str) ("so" : Str) ("more" : Str)).b, (T3.mk ("own" : Str) ("so" : Str) ("more" : Str)).c]))).a, (T3.mk (x_thing.a, (Tp.mk [("own" : Str)])) (x_thing.b, (Tp.mk [(T3.mk ("own" : Str) ("tie" : Str) ("more" : Str)).a, (T3.mk ("own" : Str) ("tie" : Str) ("more" : Str)).b, (T3.mk ("own" : Str) ("tie" : Str) ("more" : Str)).c])) (x_thing.c, (Tp.mk [(T3.mk ("own" : Str) ("so" : Str) ("more" : Str)).a, (T3.mk ("own" : Str) ("so" : Str) ("more" : Str)).b, (T3.mk ("own" : Str) ("so" : Str) ("more" : Str)).c]))).b, (T3.mk (x_thing.a, (Tp.mk [("own" : Str)])) (x_thing.b, (Tp.mk [(T3.mk ("own" : Str) ("tie" : Str) ("more" : Str)).a, (T3.mk ("own" : Str) ("tie" : Str) ("more" : Str)).b, (T3.mk ("own" : Str) ("tie" : Str) ("more" : Str)).c])) (x_thing.c, (Tp.mk [(T3.mk ("own" : Str) ("so" : Str) ("more" : Str)).a, (T3.mk ("own" : Str) ("so" : Str) ("more" : Str)).b, (T3.mk ("own" : Str) ("so" : Str) ("more" : Str)).c]))).c])) st) ⟨F78, (), none, none, rfl, Same.refl _, O79, hL95⟩ (fun i_ σ_ H_ _ hp_ => ?_) ?_ ?_
            · obtain ⟨_, _, _, _, _, hS_, hO_, _⟩ := hp_
              exact SqTF hO_.s (hS_ _ _ h85)
            · rintro i98 x99 sg100 H101 hi102 ⟨F107, st104, t105, t106, rfl, S103, O108, hL95⟩
              have f_thing := f_thing.mono S103
              have h3 := S103 _ _ h3
              have r8 := r8.mono S103
              have r9 := r9.mono S103
              have r10 := r10.mono S103
              have r11 := r11.mono S103
              have h15 := S103 _ _ h15
              have hl16 := hl16.mono S103
              have h22 := S103 _ _ h22
              have hl23 := hl23.mono S103
              have h28 := S103 _ _ h28
              have hl29 := hl29.mono S103
              have h37 := h37.mono S103
              have h45 := h45.mono S103
              have h44 := h44.mono S103
              have h52 := h52.mono S103
              have h60 := h60.mono S103
              have h59 := h59.mono S103
              have h67 := h67.mono S103
              have h75 := h75.mono S103
              have h74 := h74.mono S103
              have h82 := h82.mono S103
              have h85 := S103 _ _ h85
              have r89 := r89.mono S103
              have r90 := r90.mono S103
              have r91 := r91.mono S103
              have hl92 := hl92.mono S103
              obtain ⟨y93, e109, r110⟩ := RL.got hl92 hi102
              rw [drop_at e109] at hL95
              have hk := hLs96 _ _ _ hL95
              obtain ⟨p111, v114, v115, e112, h113, r116, r117⟩ := R.t2_ r110
              cases e112
              obtain ⟨p118, w119, e120, h121, hl122⟩ := R.lst_ r116
              cases e120
              obtain ⟨c128, L124, hL125, hLs126, hLd127⟩ := compS_L hk
              refine ⟨_, _, rfl, (SqTF O108.s h113), rfl, _, _, rfl, _, _, rfl, rfl, _, rfl, _, rfl, ⟨_, (SqLF O108.s h121)⟩, fun p129 hp130 => ?_⟩
              have z153 := O108.was hp130
              refine lc_list (K := K) (xs := w119) (fun i H => ∃ (F_ : Hp) (st : Unit) (acc : List Sm) (wa : List V), Same F107 F_ ∧ Ow _ F_ [(p129, .lst wa)] H ∧ RL F_ wa acc ∧ wa.length ≤ i ∧ L124 (List.drop i y93.1) acc st) ⟨F107, (), [], [], Same.refl _, O108.new hp130, RL.nil, Nat.zero_le _, hL125⟩ (fun i_ H_ _ hp_ => ?_) ?_ ?_
              · obtain ⟨_, _, _, _, hS_, hO_, _⟩ := hp_
                exact SqLF hO_.s (hS_ _ _ h121)
              · rintro i131 x132 H133 hi134 ⟨F139, st140, acc136, wa137, S141, O143, hl142, la138, hL125⟩
                have f_thing := f_thing.mono S141
                have h3 := S141 _ _ h3
                have r8 := r8.mono S141
                have r9 := r9.mono S141
                have r10 := r10.mono S141
                have r11 := r11.mono S141
                have h15 := S141 _ _ h15
                have hl16 := hl16.mono S141
                have h22 := S141 _ _ h22
                have hl23 := hl23.mono S141
                have h28 := S141 _ _ h28
                have hl29 := hl29.mono S141
                have h37 := h37.mono S141
                have h45 := h45.mono S141
                have h44 := h44.mono S141
                have h52 := h52.mono S141
                have h60 := h60.mono S141
                have h59 := h59.mono S141
                have h67 := h67.mono S141
                have h75 := h75.mono S141
                have h74 := h74.mono S141
                have h82 := h82.mono S141
                have h85 := S141 _ _ h85
                have r89 := r89.mono S141
                have r90 := r90.mono S141
                have r91 := r91.mono S141
                have hl92 := hl92.mono S141
                have S103 := S103.trans S141
                have r110 := r110.mono S141
                have h113 := S141 _ _ h113
                have r116 := r116.mono S141
                have r117 := r117.mono S141
                have h121 := S141 _ _ h121
                have hl122 := hl122.mono S141
                obtain ⟨y123, e144, r145⟩ := RL.got hl122 hi134
                rw [drop_at e144] at hL125
                have hk := hLs126 _ _ _ _ hL125
                refine ⟨rfl, _, rfl, _, rfl, _, rfl, _, _, _, _, _, _, rfl, O143.pre0, r145, r117, wp_call hk (fun r146 er147 hk F148 H149 g150 => ?_) (fun n hn => hn.elim)⟩
                have O151 := O143.call0 g150
                have S_ := g150.f
                have f_thing := f_thing.mono S_
                have h3 := S_ _ _ h3
                have r8 := r8.mono S_
                have r9 := r9.mono S_
                have r10 := r10.mono S_
                have r11 := r11.mono S_
                have h15 := S_ _ _ h15
                have hl16 := hl16.mono S_
                have h22 := S_ _ _ h22
                have hl23 := hl23.mono S_
                have h28 := S_ _ _ h28
                have hl29 := hl29.mono S_
                have h37 := h37.mono S_
                have h45 := h45.mono S_
                have h44 := h44.mono S_
                have h52 := h52.mono S_
                have h60 := h60.mono S_
                have h59 := h59.mono S_
                have h67 := h67.mono S_
                have h75 := h75.mono S_
                have h74 := h74.mono S_
                have h82 := h82.mono S_
                have h85 := S_ _ _ h85
                have r89 := r89.mono S_
                have r90 := r90.mono S_
                have r91 := r91.mono S_
                have hl92 := hl92.mono S_
                have S103 := S103.trans S_
                have r110 := r110.mono S_
                have h113 := S_ _ _ h113
                have r116 := r116.mono S_
                have r117 := r117.mono S_
                have h121 := S_ _ _ h121
                have hl122 := hl122.mono S_
                have S141 := S141.trans S_
                have hl142 := hl142.mono S_
                have r145 := r145.mono S_
                refine ⟨_, rfl, ?_⟩
                refine iteBN (fun q152 => ?_) (fun q152 => ?_)
                · have hk := wp_if hk q152
                  exact ⟨F148, (), acc136, wa137, S141, O151, hl142, Nat.le_succ_of_le la138, hk⟩
                · have hk := wp_el hk q152
                  refine ⟨_, rfl, _, (O151.at 0 rfl), (comp_len la138 hi134 hl122.len c128), ?_⟩
                  exact ⟨F148, (), acc136 ++ [y123], wa137 ++ [x132], S141, O151.set 0 (.lst (wa137 ++ [x132])) rfl, RL.snoc hl142 r145, by rw [List.length_append]; exact Nat.succ_le_succ la138, hk⟩
              rintro H154 ⟨F155, st156, acc157, wa158, S159, O160, hl161, la162, hL163⟩
              rw [drop_end hl122.len] at hL163
              have hk := hLd127 _ _ hL163
              have f_thing := f_thing.mono S159
              have h3 := S159 _ _ h3
              have r8 := r8.mono S159
              have r9 := r9.mono S159
              have r10 := r10.mono S159
              have r11 := r11.mono S159
              have h15 := S159 _ _ h15
              have hl16 := hl16.mono S159
              have h22 := S159 _ _ h22
              have hl23 := hl23.mono S159
              have h28 := S159 _ _ h28
              have hl29 := hl29.mono S159
              have h37 := h37.mono S159
              have h45 := h45.mono S159
              have h44 := h44.mono S159
              have h52 := h52.mono S159
              have h60 := h60.mono S159
              have h59 := h59.mono S159
              have h67 := h67.mono S159
              have h75 := h75.mono S159
              have h74 := h74.mono S159
              have h82 := h82.mono S159
              have h85 := S159 _ _ h85
              have r89 := r89.mono S159
              have r90 := r90.mono S159
              have r91 := r91.mono S159
              have hl92 := hl92.mono S159
              have S103 := S103.trans S159
              have r110 := r110.mono S159
              have h113 := S159 _ _ h113
              have r116 := r116.mono S159
              have r117 := r117.mono S159
              have h121 := S159 _ _ h121
              have hl122 := hl122.mono S159
              obtain ⟨F165, O166, S167, h168⟩ := O160.frzE 0 rfl z153
              have f_thing := f_thing.mono S167
              have h3 := S167 _ _ h3
              have r8 := r8.mono S167
              have r9 := r9.mono S167
              have r10 := r10.mono S167
              have r11 := r11.mono S167
              have h15 := S167 _ _ h15
              have hl16 := hl16.mono S167
              have h22 := S167 _ _ h22
              have hl23 := hl23.mono S167
              have h28 := S167 _ _ h28
              have hl29 := hl29.mono S167
              have h37 := h37.mono S167
              have h45 := h45.mono S167
              have h44 := h44.mono S167
              have h52 := h52.mono S167
              have h60 := h60.mono S167
              have h59 := h59.mono S167
              have h67 := h67.mono S167
              have h75 := h75.mono S167
              have h74 := h74.mono S167
              have h82 := h82.mono S167
              have h85 := S167 _ _ h85
              have r89 := r89.mono S167
              have r90 := r90.mono S167
              have r91 := r91.mono S167
              have hl92 := hl92.mono S167
              have S103 := S103.trans S167
              have r110 := r110.mono S167
              have h113 := S167 _ _ h113
              have r116 := r116.mono S167
              have r117 := r117.mono S167
              have h121 := S167 _ _ h121
              have hl122 := hl122.mono S167
              have hl161 := hl161.mono S167
              have h169 := R.lst (a := Sm) h168 hl161
              refine ⟨(by show 0 ≤ sizeLine; decide), fun p170 hp171 => ?_⟩
              have hl177 : RL (a := Sm) F165 ([]) ([] : List Sm) := RL.nil
              obtain ⟨F172, O173, S174, h175⟩ := O166.putE hp171 (.lst ([]))
              have f_thing := f_thing.mono S174
              have h3 := S174 _ _ h3
              have r8 := r8.mono S174
              have r9 := r9.mono S174
              have r10 := r10.mono S174
              have r11 := r11.mono S174
              have h15 := S174 _ _ h15
              have hl16 := hl16.mono S174
              have h22 := S174 _ _ h22
              have hl23 := hl23.mono S174
              have h28 := S174 _ _ h28
              have hl29 := hl29.mono S174
              have h37 := h37.mono S174
              have h45 := h45.mono S174
              have h44 := h44.mono S174
              have h52 := h52.mono S174
              have h60 := h60.mono S174
              have h59 := h59.mono S174
              have h67 := h67.mono S174
              have h75 := h75.mono S174
              have h74 := h74.mono S174
              have h82 := h82.mono S174
              have h85 := S174 _ _ h85
              have r89 := r89.mono S174
              have r90 := r90.mono S174
              have r91 := r91.mono S174
              have hl92 := hl92.mono S174
              have S103 := S103.trans S174
              have r110 := r110.mono S174
              have h113 := S174 _ _ h113
              have r116 := r116.mono S174
              have r117 := r117.mono S174
              have h121 := S174 _ _ h121
              have hl122 := hl122.mono S174
              have h169 := h169.mono S174
              have hl177 := hl177.mono S174
              have h176 := R.lst (a := Sm) h175 hl177
              refine ⟨_, _, (R.mono h169 O173.s), (R.mono h176 O173.s), (Nat.le_trans (Nat.min_le_right _ _) (by decide)), _, rfl, ?_⟩
              refine iteD (fun q178 => ?_) (fun q178 => ?_)
              · have hk := wp_if hk q178
                exact hk _ _  O173.g 
              · have hk := wp_el hk q178
                exact ⟨F172, (), some (V.ref p118), some v115, rfl, S103, O173, hk⟩
            rintro sg179 H180 ⟨F186, st182, t184, t185, rfl, S181, O187, hL183⟩
            rw [drop_end hl92.len] at hL183
            have hk := hLd97 _ hL183
            have f_thing := f_thing.mono S181
            have h3 := S181 _ _ h3
            have r8 := r8.mono S181
            have r9 := r9.mono S181
            have r10 := r10.mono S181
            have r11 := r11.mono S181
            have h15 := S181 _ _ h15
            have hl16 := hl16.mono S181
            have h22 := S181 _ _ h22
            have hl23 := hl23.mono S181
            have h28 := S181 _ _ h28
            have hl29 := hl29.mono S181
            have h37 := h37.mono S181
            have h45 := h45.mono S181
            have h44 := h44.mono S181
            have h52 := h52.mono S181
            have h60 := h60.mono S181
            have h59 := h59.mono S181
            have h67 := h67.mono S181
            have h75 := h75.mono S181
            have h74 := h74.mono S181
            have h82 := h82.mono S181
            have h85 := S181 _ _ h85
            have r89 := r89.mono S181
            have r90 := r90.mono S181
            have r91 := r91.mono S181
            have hl92 := hl92.mono S181
            refine ⟨_, rfl, (by show 2 ≤ sizeLine; decide), fun p189 hp190 => ?_⟩
            obtain ⟨F191, O192, S193, h194⟩ := O187.putE hp190 (.tup [V.str ("own" : Str), V.str ("so" : Str)])
            have f_thing := f_thing.mono S193
            have h3 := S193 _ _ h3
            have r8 := r8.mono S193
            have r9 := r9.mono S193
            have r10 := r10.mono S193
            have r11 := r11.mono S193
            have h15 := S193 _ _ h15
            have hl16 := hl16.mono S193
            have h22 := S193 _ _ h22
            have hl23 := hl23.mono S193
            have h28 := S193 _ _ h28
            have hl29 := hl29.mono S193
            have h37 := h37.mono S193
            have h45 := h45.mono S193
            have h44 := h44.mono S193
            have h52 := h52.mono S193
            have h60 := h60.mono S193
            have h59 := h59.mono S193
            have h67 := h67.mono S193
            have h75 := h75.mono S193
            have h74 := h74.mono S193
            have h82 := h82.mono S193
            have h85 := S193 _ _ h85
            have r89 := r89.mono S193
            have r90 := r90.mono S193
            have r91 := r91.mono S193
            have hl92 := hl92.mono S193
            have h195 : R (a := (Str × Str)) F191 (.ref p189) (("own" : Str), ("so" : Str)) := R.t2 h194 R.str R.str
            refine ⟨_, rfl, _, _, _, _, _, _, rfl, O192.pre0, r11, (R.tp2 h195), wp_call hk (fun r196 er197 hk F198 H199 g200 => ?_) (fun n hn C H1 hC kp => hn C H1 hC (O192.kp0 kp))⟩
            have O201 := O192.call0 g200
            have S_ := g200.f
            have f_thing := f_thing.mono S_
            have h3 := S_ _ _ h3
            have r8 := r8.mono S_
            have r9 := r9.mono S_
            have r10 := r10.mono S_
            have r11 := r11.mono S_
            have h15 := S_ _ _ h15
            have hl16 := hl16.mono S_
            have h22 := S_ _ _ h22
            have hl23 := hl23.mono S_
            have h28 := S_ _ _ h28
            have hl29 := hl29.mono S_
            have h37 := h37.mono S_
            have h45 := h45.mono S_
            have h44 := h44.mono S_
            have h52 := h52.mono S_
            have h60 := h60.mono S_
            have h59 := h59.mono S_
            have h67 := h67.mono S_
            have h75 := h75.mono S_
            have h74 := h74.mono S_
            have h82 := h82.mono S_
            have h85 := S_ _ _ h85
            have r89 := r89.mono S_
            have r90 := r90.mono S_
            have r91 := r91.mono S_
            have hl92 := hl92.mono S_
            have h195 := h195.mono S_
            exact hk _ _  O201.g 
      · have hk := wp_el hk q18
        refine iteT ?_
        exact hk _ _  O.g 
    · have hk := wp_el hk q17
      refine ⟨_, rfl, ?_⟩
      refine iteNF ?_
      refine iteT ?_
      exact hk _ _  O.g 
abbrev s_need_rule : Stmt := top 16
theorem sc_need_rule : FnScope ["rule"] ["rule"] (defScope s_need_rule) := ⟨rfl, rfl, rfl, by decide +kernel, rfl, by decide +kernel, by decide +kernel⟩
def m_need_rule (x_rule : (T4 (List Sm) (List Sm) (List Sm) Sm)) : M (Unit) :=
m_is_rule x_rule >>= fun r1 =>
if r1 = true then (
.ok ())
else (
raise "NoRule")
def sp_need_rule (mg : Str → Option Value) : Sp := fun vs H Q E => ∃ (F : Hp) (v_rule : V) (x_rule : (T4 (List Sm) (List Sm) (List Sm) Sm)), vs = [v_rule] ∧ Pre F [] H ∧ R (a := (T4 (List Sm) (List Sm) (List Sm) Sm)) F v_rule x_rule ∧
  wp (m_need_rule x_rule) (fun r => ∀ (F' H' : Hp), Gr [] F H F' H' → Q .non H')
  (fun n => ∀ (C : Addr) (H' : Hp), mg (Str.ofString n) = some (.ref C) → Kp [] H H' → E (.ref C) none H')
set_option maxHeartbeats 2000000 in
theorem ok_need_rule (nb : Nb mg) (C_is_rule : Ca P w K mg base "is_rule" 62 ["thing"] (sp_is_rule mg)) (E_NoRule : ∃ C, Xc K mg "NoRule" C) (D : Df K mg "need_rule" "need_rule" s_need_rule ["rule"]) : Ca P w K mg base "need_rule" 63 ["rule"] (sp_need_rule mg) := by
  obtain ⟨fa_is_rule, fd_is_rule, G_is_rule, M_is_rule, K_is_rule, B_is_rule⟩ := C_is_rule.ex
  obtain ⟨XC_NoRule, X_NoRule⟩ := E_NoRule
  refine Ca.mk' D sc_need_rule (fun vs H Q E h => ?_) (fun q_ f_ cdv A outer s H vs Q E hr h => ?_)
  · obtain ⟨F, _, _, rfl, _⟩ := h
    rfl
  · obtain ⟨F, v_rule, x_rule, rfl, P0, f_rule, hk⟩ := h
    have nd := sc_need_rule.nd
    have hu64 := hr.units
    have hu128 := hu128_of hr
    have O := P0.start
    refine ⟨_, (pss_one (ps_if (pt_not (pt_val (pe_call G_is_rule (hr.mono (by decide)) rfl M_is_rule K_is_rule B_is_rule .nil (passes_call (takes_of rfl rfl rfl rfl) fun _ _ _ _ h => h) (pa_cons (pv 0) pa_nil)))) (pss_one (ps_raise rfl (takes_of rfl rfl rfl rfl) (pmk_own PySem.F.excBase_ValueError X_NoRule.x X_NoRule.g X_NoRule.k (raises_own X_NoRule.b X_NoRule.t) rfl))) pss_nil)), ?_⟩
    refine ⟨_, rfl, _, _, _, rfl, O.pre0, f_rule, wp_call hk (fun r1 er2 hk F3 H4 g5 => ?_) (fun n hn C H1 hC kp => hn C H1 hC (O.kp0 kp))⟩
    have O6 := O.call0 g5
    have S_ := g5.f
    have f_rule := f_rule.mono S_
    refine ⟨_, rfl, ?_⟩
    refine iteBN (fun q7 => ?_) (fun q7 => ?_)
    · have hk := wp_if hk q7
      exact hk _ _  O6.g 
    · have hk := wp_el hk q7
      exact hk _ _ X_NoRule.g O6.kp
abbrev s_sum_at : Stmt := top 17
theorem sc_sum_at : FnScope ["sum_told", "own", "tie", "so", "more", "word", "one", "other", "part"] ["sum_told", "own", "tie", "so", "more"] (defScope s_sum_at) := ⟨rfl, rfl, rfl, by decide +kernel, rfl, by decide +kernel, by decide +kernel⟩
def m_sum_at : Nat → Sm → Int → Int → (List Int) → (List Int) → M (Int)
  | 0, _, _, _, _, _ => bad
  | k_ + 1, x_sum_told, x_own, x_tie, x_so, x_more =>
    if (Sm.word x_sum_told) = ("number" : Str) then (
    opt (Sm.int? x_sum_told) >>= fun y6 =>
    .ok y6)
    else (
    if (Sm.word x_sum_told) = ("own" : Str) then (
    .ok x_own)
    else (
    if (Sm.word x_sum_told) = ("tie" : Str) then (
    .ok x_tie)
    else (
    if (Sm.word x_sum_told) = ("so" : Str) then (
    opt (Sm.int? x_sum_told) >>= fun y15 =>
    opt (atI x_so y15) >>= fun y26 =>
    .ok y26)
    else (
    if (Sm.word x_sum_told) = ("more" : Str) then (
    opt (Sm.int? x_sum_told) >>= fun y32 =>
    opt (atI x_more y32) >>= fun y43 =>
    .ok y43)
    else (
    opt (Sm.two? x_sum_told) >>= fun y48 =>
    compS (fun (y65 : Sm) (st82 : Unit) =>
    m_sum_at k_ y65 x_own x_tie x_so x_more >>= fun r88 =>
    .ok (some r88, ())) ([y48.1, y48.2]) () >>= fun q105 =>
    two2 q105.1 >>= fun (x116, y117) =>
    if (Sm.word x_sum_told) = ("plus" : Str) then (
    .ok (x116 + y117))
    else (
    if (Sm.word x_sum_told) = ("less" : Str) then (
    .ok (x116 - y117))
    else (
    if (Sm.word x_sum_told) = ("times" : Str) then (
    chk (CMulW x116 y117) >>= fun _ =>
    .ok (x116 * y117))
    else (
    if (Sm.word x_sum_told) = ("most" : Str) then (
    .ok (if y117 > x116 then y117 else x116))
    else (
    .ok (if y117 < x116 then y117 else x116))))))))))
def sp_sum_at (k_ : Nat) (mg : Str → Option Value) : Sp := fun vs H Q E => ∃ (F : Hp) (v_sum_told : V) (x_sum_told : Sm) (x_own : Int) (x_tie : Int) (v_so : V) (x_so : (List Int)) (v_more : V) (x_more : (List Int)), vs = [v_sum_told, V.int x_own, V.int x_tie, v_so, v_more] ∧ Pre F [] H ∧ R (a := Sm) F v_sum_told x_sum_told ∧ R (a := (List Int)) F v_so x_so ∧ R (a := (List Int)) F v_more x_more ∧
  wp (m_sum_at k_ x_sum_told x_own x_tie x_so x_more) (fun r => ∀ (F' H' : Hp), Gr [] F H F' H' → Q (V.int r) H')
  (fun n => ∀ (C : Addr) (H' : Hp), mg (Str.ofString n) = some (.ref C) → Kp [] H H' → E (.ref C) none H')
set_option maxHeartbeats 2000000 in
theorem ok_sum_at (nb : Nb mg) (D : Df K mg "sum_at" "sum_at" s_sum_at ["sum_told", "own", "tie", "so", "more"]) : ∀ k_ : Nat, Ca P w K mg base "sum_at" (k_ + 1) ["sum_told", "own", "tie", "so", "more"] (sp_sum_at k_ mg) := by
  intro k_
  induction k_ with
  | zero =>
    refine Ca.mk' D sc_sum_at (fun vs H Q E h => ?_) (fun q_ f_ cdv A outer s H vs Q E hr h => ?_)
    · obtain ⟨F, _, _, _, _, _, _, _, _, rfl, _⟩ := h
      rfl
    · obtain ⟨F, _, _, _, _, _, _, _, _, rfl, _, _, _, _, hk⟩ := h
      exact hk.elim
  | succ k_ ih_ =>
    have C_sum_at := ih_
    obtain ⟨fa_sum_at, fd_sum_at, G_sum_at, M_sum_at, K_sum_at, B_sum_at⟩ := C_sum_at.ex
    refine Ca.mk' D sc_sum_at (fun vs H Q E h => ?_) (fun q_ f_ cdv A outer s H vs Q E hr h => ?_)
    · obtain ⟨F, _, _, _, _, _, _, _, _, rfl, _⟩ := h
      rfl
    · obtain ⟨F, v_sum_told, x_sum_told, x_own, x_tie, v_so, x_so, v_more, x_more, rfl, P0, f_sum_told, f_so, f_more, hk⟩ := h
      have nd := sc_sum_at.nd
      have hu64 := hr.units
      have hu128 := hu128_of hr
      have O := P0.start
      refine ⟨_, (pss_cons (ps_set (i := 5) nd rfl (Or.inl rfl) (pe_ix (ixTupK (K := K) rfl) (pv 0) pe_int (fun _ _ => rfl)))
  (pss_cons (ps_if (pt_cmpR (op_eqT Str hu64) (pv 5) pe_str (nomark _)) (pss_one (ps_ret (pe_ix (ixTupK (K := K) rfl) (pv 0) pe_int (fun _ _ => rfl)))) pss_nil)
  (pss_cons (ps_if (pt_cmpR (op_eqT Str hu64) (pv 5) pe_str (nomark _)) (pss_one (ps_ret (pv 1))) pss_nil)
  (pss_cons (ps_if (pt_cmpR (op_eqT Str hu64) (pv 5) pe_str (nomark _)) (pss_one (ps_ret (pv 2))) pss_nil)
  (pss_cons (ps_if (pt_cmpR (op_eqT Str hu64) (pv 5) pe_str (nomark _)) (pss_one (ps_ret (pe_ix (ixListK (K := K) rfl) (pv 3) (pe_ix (ixTupK (K := K) rfl) (pv 0) pe_int (fun _ _ => rfl)) (fun _ _ => rfl)))) pss_nil)
  (pss_cons (ps_if (pt_cmpR (op_eqT Str hu64) (pv 5) pe_str (nomark _)) (pss_one (ps_ret (pe_ix (ixListK (K := K) rfl) (pv 4) (pe_ix (ixTupK (K := K) rfl) (pv 0) pe_int (fun _ _ => rfl)) (fun _ _ => rfl)))) pss_nil)
  (pss_cons (ps_asg (pe_lc (own := [("part", 8)]) (g := gName 8) (tt := _) rfl nd (pi_tup (pe_slice (slTupK (K := K) rfl) (pv 0) (po_some pe_int) po_none)) (blkOk_by (own := [("part", 8)]) (N := ["sum_told", "own", "tie", "so", "more", "word", "one", "other", "part"]) (sc := defScope s_sum_at) (by decide +kernel)) (fun _ _ _ _ _ => (pg_name (i := 8) nd rfl (Or.inl rfl))) (fun _ _ _ _ _ => pts_nil) (fun _ _ _ _ _ => (pe_call G_sum_at (hr.mono (by omega)) rfl M_sum_at K_sum_at B_sum_at .nil passL (pa_cons (pv 8) (pa_cons (pv 1) (pa_cons (pv 2) (pa_cons (pv 3) (pa_cons (pv 4) pa_nil)))))))) (pgLstK (K := K) rfl rfl (pgs_cons (pg_name (i := 6) nd rfl (Or.inl rfl)) (pgs_cons (pg_name (i := 7) nd rfl (Or.inl rfl)) pgs_nil))))
  (pss_cons (ps_if (pt_cmpR (op_eqT Str hu64) (pv 5) pe_str (nomark _)) (pss_one (ps_ret (pe_op op_add (pv 6) (pv 7)))) pss_nil)
  (pss_cons (ps_if (pt_cmpR (op_eqT Str hu64) (pv 5) pe_str (nomark _)) (pss_one (ps_ret (pe_op op_sub (pv 6) (pv 7)))) pss_nil)
  (pss_cons (ps_if (pt_cmpR (op_eqT Str hu64) (pv 5) pe_str (nomark _)) (pss_one (ps_ret (pe_op op_mulW (pv 6) (pv 7)))) pss_nil)
  (pss_cons (ps_if (pt_cmpR (op_eqT Str hu64) (pv 5) pe_str (nomark _)) (pss_one (ps_ret (pe_callB (call_max2 rfl) (by rfl) nb.b_max (by decide +kernel) (pa_cons (pv 6) (pa_cons (pv 7) pa_nil))))) pss_nil)
  (pss_one (ps_ret (pe_callB (call_min2 rfl) (by rfl) nb.b_min (by decide +kernel) (pa_cons (pv 6) (pa_cons (pv 7) pa_nil)))))))))))))))), ?_⟩
      obtain ⟨p1, w2, e3, h4⟩ := R.sm_ f_sum_told
      cases e3
      refine ⟨_, rfl, _, _, _, _, rfl, rfl, (SqTF O.s h4), (atI0 _ _), _, rfl, _, _, R.str, R.str, _, rfl, ?_⟩
      refine iteD (fun q5 => ?_) (fun q5 => ?_)
      · have hk := wp_if hk q5
        obtain ⟨y6, e7, hk⟩ := wp_opt hk
        obtain ⟨p8, w9, e10, h11⟩ := R.sm_int f_sum_told e7
        cases e10
        refine ⟨_, rfl, _, _, _, _, rfl, rfl, (SqTF O.s h11), rfl, ?_⟩
        exact hk _ _  O.g 
      · have hk := wp_el hk q5
        refine ⟨_, rfl, _, _, R.str, R.str, _, rfl, ?_⟩
        refine iteD (fun q12 => ?_) (fun q12 => ?_)
        · have hk := wp_if hk q12
          refine ⟨_, rfl, ?_⟩
          exact hk _ _  O.g 
        · have hk := wp_el hk q12
          refine ⟨_, rfl, _, _, R.str, R.str, _, rfl, ?_⟩
          refine iteD (fun q13 => ?_) (fun q13 => ?_)
          · have hk := wp_if hk q13
            refine ⟨_, rfl, ?_⟩
            exact hk _ _  O.g 
          · have hk := wp_el hk q13
            refine ⟨_, rfl, _, _, R.str, R.str, _, rfl, ?_⟩
            refine iteD (fun q14 => ?_) (fun q14 => ?_)
            · have hk := wp_if hk q14
              obtain ⟨y15, e16, hk⟩ := wp_opt hk
              obtain ⟨p17, w18, e19, h20⟩ := R.sm_int f_sum_told e16
              cases e19
              obtain ⟨p21, w22, e23, h24, hl25⟩ := R.lst_ f_so
              cases e23
              obtain ⟨y26, e27, hk⟩ := wp_opt hk
              obtain ⟨w28, e29, r30⟩ := hl25.atI e27
              obtain rfl := R.int_ r30
              refine ⟨_, rfl, _, rfl, _, _, _, _, rfl, rfl, (SqTF O.s h20), rfl, _, _, _, _, rfl, rfl, (SqLF O.s h24), e29, ?_⟩
              exact hk _ _  O.g 
            · have hk := wp_el hk q14
              refine ⟨_, rfl, _, _, R.str, R.str, _, rfl, ?_⟩
              refine iteD (fun q31 => ?_) (fun q31 => ?_)
              · have hk := wp_if hk q31
                obtain ⟨y32, e33, hk⟩ := wp_opt hk
                obtain ⟨p34, w35, e36, h37⟩ := R.sm_int f_sum_told e33
                cases e36
                obtain ⟨p38, w39, e40, h41, hl42⟩ := R.lst_ f_more
                cases e40
                obtain ⟨y43, e44, hk⟩ := wp_opt hk
                obtain ⟨w45, e46, r47⟩ := hl42.atI e44
                obtain rfl := R.int_ r47
                refine ⟨_, rfl, _, rfl, _, _, _, _, rfl, rfl, (SqTF O.s h37), rfl, _, _, _, _, rfl, rfl, (SqLF O.s h41), e46, ?_⟩
                exact hk _ _  O.g 
              · have hk := wp_el hk q31
                obtain ⟨y48, e49, hk⟩ := wp_opt hk
                obtain ⟨p50, w51, v52, v53, e54, h55, r56, r57⟩ := R.sm_two f_sum_told e49
                cases e54
                refine ⟨_, rfl, _, rfl, _, _, rfl, (SqTF O.s h55), (sl3 _ _ _), fun p58 hp59 => ?_⟩
                obtain ⟨F60, O61, S62, h63⟩ := O.putE hp59 (.tup [v52, v53])
                have f_sum_told := f_sum_told.mono S62
                have f_so := f_so.mono S62
                have f_more := f_more.mono S62
                have h4 := S62 _ _ h4
                have h55 := S62 _ _ h55
                have r56 := r56.mono S62
                have r57 := r57.mono S62
                have hl64 : RL (a := Sm) F60 [v52, v53] [y48.1, y48.2] := RL.cons r56 (RL.cons r57 RL.nil)
                obtain ⟨c70, L66, hL67, hLs68, hLd69⟩ := compS_L hk
                refine ⟨_, rfl, ⟨_, (SqTF O61.s h63)⟩, fun p71 hp72 => ?_⟩
                have z94 := O61.was hp72
                refine lc_tup (K := K) (xs := [v52, v53]) (fun i H => ∃ (F_ : Hp) (st : Unit) (acc : List Int) (wa : List V), Same F60 F_ ∧ Ow _ F_ [(p71, .lst wa)] H ∧ RL F_ wa acc ∧ wa.length ≤ i ∧ L66 (List.drop i ([y48.1, y48.2])) acc st) ⟨F60, (), [], [], Same.refl _, O61.new hp72, RL.nil, Nat.zero_le _, hL67⟩ (fun i_ H_ _ hp_ => ?_) ?_ ?_
                · obtain ⟨_, _, _, _, hS_, hO_, _⟩ := hp_
                  exact SqTF hO_.s (hS_ _ _ h63)
                · rintro i73 x74 H75 hi76 ⟨F81, st82, acc78, wa79, S83, O85, hl84, la80, hL67⟩
                  have f_sum_told := f_sum_told.mono S83
                  have f_so := f_so.mono S83
                  have f_more := f_more.mono S83
                  have h4 := S83 _ _ h4
                  have h55 := S83 _ _ h55
                  have r56 := r56.mono S83
                  have r57 := r57.mono S83
                  have h63 := S83 _ _ h63
                  have hl64 := hl64.mono S83
                  obtain ⟨y65, e86, r87⟩ := RL.got hl64 hi76
                  rw [drop_at e86] at hL67
                  have hk := hLs68 _ _ _ _ hL67
                  refine ⟨rfl, ?_⟩
                  refine ⟨_, rfl, _, rfl, _, rfl, _, rfl, _, rfl, _, _, _, _, _, _, _, _, _, rfl, O85.pre0, r87, f_so, f_more, wp_call hk (fun r88 er89 hk F90 H91 g92 => ?_) (fun n hn => hn.elim)⟩
                  have O93 := O85.call0 g92
                  have S_ := g92.f
                  have f_sum_told := f_sum_told.mono S_
                  have f_so := f_so.mono S_
                  have f_more := f_more.mono S_
                  have h4 := S_ _ _ h4
                  have h55 := S_ _ _ h55
                  have r56 := r56.mono S_
                  have r57 := r57.mono S_
                  have h63 := S_ _ _ h63
                  have hl64 := hl64.mono S_
                  have S83 := S83.trans S_
                  have hl84 := hl84.mono S_
                  have r87 := r87.mono S_
                  refine ⟨_, (O93.at 0 rfl), (comp_len la80 hi76 hl64.len c70), ?_⟩
                  exact ⟨F90, (), acc78 ++ [r88], wa79 ++ [V.int r88], S83, O93.set 0 (.lst (wa79 ++ [V.int r88])) rfl, RL.snoc hl84 R.int, by rw [List.length_append]; exact Nat.succ_le_succ la80, hk⟩
                rintro H95 ⟨F96, st97, acc98, wa99, S100, O101, hl102, la103, hL104⟩
                rw [drop_end hl64.len] at hL104
                have hk := hLd69 _ _ hL104
                have f_sum_told := f_sum_told.mono S100
                have f_so := f_so.mono S100
                have f_more := f_more.mono S100
                have h4 := S100 _ _ h4
                have h55 := S100 _ _ h55
                have r56 := r56.mono S100
                have r57 := r57.mono S100
                have h63 := S100 _ _ h63
                have hl64 := hl64.mono S100
                obtain ⟨F106, O107, S108, h109⟩ := O101.frzE 0 rfl z94
                have f_sum_told := f_sum_told.mono S108
                have f_so := f_so.mono S108
                have f_more := f_more.mono S108
                have h4 := S108 _ _ h4
                have h55 := S108 _ _ h55
                have r56 := r56.mono S108
                have r57 := r57.mono S108
                have h63 := S108 _ _ h63
                have hl64 := hl64.mono S108
                have hl102 := hl102.mono S108
                have h110 := R.lst (a := Int) h109 hl102
                obtain ⟨p111, w112, e113, h114, hl115⟩ := R.lst_ h110
                cases e113
                obtain ⟨x116, y117, e118, hk⟩ := wp_two2 hk
                have hl119 : RL (a := Int) F106 w112 [x116, y117] := by rw [← e118]; exact hl115
                obtain ⟨w120, w121, e122, r123, q124⟩ := RL.cons_ hl119
                obtain ⟨w125, w126, e127, r128, q129⟩ := RL.cons_ q124
                rw [e127, RL.nil_ q129] at e122
                obtain rfl := R.int_ r123
                obtain rfl := R.int_ r128
                refine ⟨_, _, rfl, (SqLF O107.s h114), (by rw [e122]; rfl), ?_⟩
                rw [e122]
                refine ⟨_, _, rfl, _, _, rfl, rfl, _, rfl, _, _, R.str, R.str, _, rfl, ?_⟩
                refine iteD (fun q131 => ?_) (fun q131 => ?_)
                · have hk := wp_if hk q131
                  refine ⟨_, rfl, _, rfl, _, _, rfl, rfl, ?_⟩
                  exact hk _ _  O107.g 
                · have hk := wp_el hk q131
                  refine ⟨_, rfl, _, _, R.str, R.str, _, rfl, ?_⟩
                  refine iteD (fun q132 => ?_) (fun q132 => ?_)
                  · have hk := wp_if hk q132
                    refine ⟨_, rfl, _, rfl, _, _, rfl, rfl, ?_⟩
                    exact hk _ _  O107.g 
                  · have hk := wp_el hk q132
                    refine ⟨_, rfl, _, _, R.str, R.str, _, rfl, ?_⟩
                    refine iteD (fun q133 => ?_) (fun q133 => ?_)
                    · have hk := wp_if hk q133
                      obtain ⟨c134, hk⟩ := wp_chk hk
                      refine ⟨_, rfl, _, rfl, _, _, rfl, rfl, c134, ?_⟩
                      exact hk _ _  O107.g 
                    · have hk := wp_el hk q133
                      refine ⟨_, rfl, _, _, R.str, R.str, _, rfl, ?_⟩
                      refine iteD (fun q135 => ?_) (fun q135 => ?_)
                      · have hk := wp_if hk q135
                        refine ⟨_, rfl, _, rfl, _, _, rfl, ?_⟩
                        exact hk _ _  O107.g 
                      · have hk := wp_el hk q135
                        refine ⟨_, rfl, _, rfl, _, _, rfl, ?_⟩
                        exact hk _ _  O107.g 
abbrev s_begun : Stmt := top 18
theorem sc_begun : FnScope ["rule", "own", "one"] ["rule", "own"] (defScope s_begun) := ⟨rfl, rfl, rfl, by decide +kernel, rfl, by decide +kernel, by decide +kernel⟩
def m_begun (x_rule : (T4 (List Sm) (List Sm) (List Sm) Sm)) (x_own : Int) : M ((List Int)) :=
compS (fun (y18 : Sm) (st35 : Unit) =>
m_sum_at 12 y18 x_own (0 : Int) ([] : List Int) ([] : List Int) >>= fun r57 =>
.ok (some r57, ())) x_rule.a () >>= fun q74 =>
.ok q74.1
def sp_begun (mg : Str → Option Value) : Sp := fun vs H Q E => ∃ (F : Hp) (v_rule : V) (x_rule : (T4 (List Sm) (List Sm) (List Sm) Sm)) (x_own : Int), vs = [v_rule, V.int x_own] ∧ Pre F [] H ∧ R (a := (T4 (List Sm) (List Sm) (List Sm) Sm)) F v_rule x_rule ∧
  wp (m_begun x_rule x_own) (fun r => ∀ (F' H' : Hp), Gr [] F H F' H' → ∀ (p : Addr) (w : (List V)), H p = none → F' p = none → H' p = some (.lst w) → RL (a := Int) F' w r → Q (.ref p) H')
  (fun n => ∀ (C : Addr) (H' : Hp), mg (Str.ofString n) = some (.ref C) → Kp [] H H' → E (.ref C) none H')
set_option maxHeartbeats 2000000 in
theorem ok_begun (nb : Nb mg) (C_sum_at : Ca P w K mg base "sum_at" 13 ["sum_told", "own", "tie", "so", "more"] (sp_sum_at 12 mg)) (D : Df K mg "begun" "begun" s_begun ["rule", "own"]) : Ca P w K mg base "begun" 14 ["rule", "own"] (sp_begun mg) := by
  obtain ⟨fa_sum_at, fd_sum_at, G_sum_at, M_sum_at, K_sum_at, B_sum_at⟩ := C_sum_at.ex
  refine Ca.mk' D sc_begun (fun vs H Q E h => ?_) (fun q_ f_ cdv A outer s H vs Q E hr h => ?_)
  · obtain ⟨F, _, _, _, rfl, _⟩ := h
    rfl
  · obtain ⟨F, v_rule, x_rule, x_own, rfl, P0, f_rule, hk⟩ := h
    have nd := sc_begun.nd
    have hu64 := hr.units
    have hu128 := hu128_of hr
    have O := P0.start
    refine ⟨_, (pss_one (ps_ret (pe_lc (own := [("one", 2)]) (g := gName 2) (tt := _) rfl nd (pi_list (pe_ix (ixTupK (K := K) rfl) (pv 0) pe_int (fun _ _ => rfl))) (blkOk_by (own := [("one", 2)]) (N := ["rule", "own", "one"]) (sc := defScope s_begun) (by decide +kernel)) (fun _ _ _ _ _ => (pg_name (i := 2) nd rfl (Or.inl rfl))) (fun _ _ _ _ _ => pts_nil) (fun _ _ _ _ _ => (pe_call G_sum_at (hr.mono (by decide)) rfl M_sum_at K_sum_at B_sum_at .nil passL (pa_cons (pv 2) (pa_cons (pv 1) (pa_cons pe_int (pa_cons (pe_lst pa_nil) (pa_cons (pe_lst pa_nil) pa_nil)))))))))), ?_⟩
    obtain ⟨p2, v5, v6, v7, v8, e3, h4, r9, r10, r11, r12⟩ := R.t4_ f_rule
    cases e3
    obtain ⟨p13, w14, e15, h16, hl17⟩ := R.lst_ r9
    cases e15
    obtain ⟨c23, L19, hL20, hLs21, hLd22⟩ := compS_L hk
    refine ⟨_, rfl, _, _, _, _, rfl, rfl, (SqTF O.s h4), rfl, _, rfl, ⟨_, (SqLF O.s h16)⟩, fun p24 hp25 => ?_⟩
    have z63 := O.was hp25
    refine lc_list (K := K) (xs := w14) (fun i H => ∃ (F_ : Hp) (st : Unit) (acc : List Int) (wa : List V), Same F F_ ∧ Ow _ F_ [(p24, .lst wa)] H ∧ RL F_ wa acc ∧ wa.length ≤ i ∧ L19 (List.drop i x_rule.a) acc st) ⟨F, (), [], [], Same.refl _, O.new hp25, RL.nil, Nat.zero_le _, hL20⟩ (fun i_ H_ _ hp_ => ?_) ?_ ?_
    · obtain ⟨_, _, _, _, hS_, hO_, _⟩ := hp_
      exact SqLF hO_.s (hS_ _ _ h16)
    · rintro i26 x27 H28 hi29 ⟨F34, st35, acc31, wa32, S36, O38, hl37, la33, hL20⟩
      have f_rule := f_rule.mono S36
      have h4 := S36 _ _ h4
      have r9 := r9.mono S36
      have r10 := r10.mono S36
      have r11 := r11.mono S36
      have r12 := r12.mono S36
      have h16 := S36 _ _ h16
      have hl17 := hl17.mono S36
      obtain ⟨y18, e39, r40⟩ := RL.got hl17 hi29
      rw [drop_at e39] at hL20
      have hk := hLs21 _ _ _ _ hL20
      refine ⟨rfl, ?_⟩
      refine ⟨_, rfl, _, rfl, (by show 0 ≤ sizeLine; decide), fun p41 hp42 => ?_⟩
      have hl48 : RL (a := Int) F34 ([]) ([] : List Int) := RL.nil
      obtain ⟨F43, O44, S45, h46⟩ := O38.putE hp42 (.lst ([]))
      have f_rule := f_rule.mono S45
      have h4 := S45 _ _ h4
      have r9 := r9.mono S45
      have r10 := r10.mono S45
      have r11 := r11.mono S45
      have r12 := r12.mono S45
      have h16 := S45 _ _ h16
      have hl17 := hl17.mono S45
      have S36 := S36.trans S45
      have hl37 := hl37.mono S45
      have r40 := r40.mono S45
      have hl48 := hl48.mono S45
      have h47 := R.lst (a := Int) h46 hl48
      refine ⟨(by show 0 ≤ sizeLine; decide), fun p49 hp50 => ?_⟩
      have hl56 : RL (a := Int) F43 ([]) ([] : List Int) := RL.nil
      obtain ⟨F51, O52, S53, h54⟩ := O44.putE hp50 (.lst ([]))
      have f_rule := f_rule.mono S53
      have h4 := S53 _ _ h4
      have r9 := r9.mono S53
      have r10 := r10.mono S53
      have r11 := r11.mono S53
      have r12 := r12.mono S53
      have h16 := S53 _ _ h16
      have hl17 := hl17.mono S53
      have S36 := S36.trans S53
      have hl37 := hl37.mono S53
      have r40 := r40.mono S53
      have h47 := h47.mono S53
      have hl56 := hl56.mono S53
      have h55 := R.lst (a := Int) h54 hl56
      refine ⟨_, _, _, _, _, _, _, _, _, rfl, O52.pre0, r40, h47, h55, wp_call hk (fun r57 er58 hk F59 H60 g61 => ?_) (fun n hn => hn.elim)⟩
      have O62 := O52.call0 g61
      have S_ := g61.f
      have f_rule := f_rule.mono S_
      have h4 := S_ _ _ h4
      have r9 := r9.mono S_
      have r10 := r10.mono S_
      have r11 := r11.mono S_
      have r12 := r12.mono S_
      have h16 := S_ _ _ h16
      have hl17 := hl17.mono S_
      have S36 := S36.trans S_
      have hl37 := hl37.mono S_
      have r40 := r40.mono S_
      have h47 := h47.mono S_
      have h55 := h55.mono S_
      refine ⟨_, (O62.at 0 rfl), (comp_len la33 hi29 hl17.len c23), ?_⟩
      exact ⟨F59, (), acc31 ++ [r57], wa32 ++ [V.int r57], S36, O62.set 0 (.lst (wa32 ++ [V.int r57])) rfl, RL.snoc hl37 R.int, by rw [List.length_append]; exact Nat.succ_le_succ la33, hk⟩
    rintro H64 ⟨F65, st66, acc67, wa68, S69, O70, hl71, la72, hL73⟩
    rw [drop_end hl17.len] at hL73
    have hk := hLd22 _ _ hL73
    have f_rule := f_rule.mono S69
    have h4 := S69 _ _ h4
    have r9 := r9.mono S69
    have r10 := r10.mono S69
    have r11 := r11.mono S69
    have r12 := r12.mono S69
    have h16 := S69 _ _ h16
    have hl17 := hl17.mono S69
    exact hk _ _  O70.g  _ _ z63 (O70.cf _ (List.mem_of_getElem? (i := 0) rfl)) (O70.at 0 rfl) hl71
abbrev s_joined : Stmt := top 19
theorem sc_joined : FnScope ["rule", "so", "more", "own", "one"] ["rule", "so", "more", "own"] (defScope s_joined) := ⟨rfl, rfl, rfl, by decide +kernel, rfl, by decide +kernel, by decide +kernel⟩
def m_joined (x_rule : (T4 (List Sm) (List Sm) (List Sm) Sm)) (x_so : (List Int)) (x_more : (List Int)) (x_own : Int) : M ((List Int)) :=
compS (fun (y18 : Sm) (st35 : Unit) =>
m_sum_at 12 y18 x_own (0 : Int) x_so x_more >>= fun r41 =>
.ok (some r41, ())) x_rule.c () >>= fun q58 =>
.ok q58.1
def sp_joined (mg : Str → Option Value) : Sp := fun vs H Q E => ∃ (F : Hp) (v_rule : V) (x_rule : (T4 (List Sm) (List Sm) (List Sm) Sm)) (v_so : V) (x_so : (List Int)) (v_more : V) (x_more : (List Int)) (x_own : Int), vs = [v_rule, v_so, v_more, V.int x_own] ∧ Pre F [] H ∧ R (a := (T4 (List Sm) (List Sm) (List Sm) Sm)) F v_rule x_rule ∧ R (a := (List Int)) F v_so x_so ∧ R (a := (List Int)) F v_more x_more ∧
  wp (m_joined x_rule x_so x_more x_own) (fun r => ∀ (F' H' : Hp), Gr [] F H F' H' → ∀ (p : Addr) (w : (List V)), H p = none → F' p = none → H' p = some (.lst w) → RL (a := Int) F' w r → Q (.ref p) H')
  (fun n => ∀ (C : Addr) (H' : Hp), mg (Str.ofString n) = some (.ref C) → Kp [] H H' → E (.ref C) none H')
set_option maxHeartbeats 2000000 in
theorem ok_joined (nb : Nb mg) (C_sum_at : Ca P w K mg base "sum_at" 13 ["sum_told", "own", "tie", "so", "more"] (sp_sum_at 12 mg)) (D : Df K mg "joined" "joined" s_joined ["rule", "so", "more", "own"]) : Ca P w K mg base "joined" 14 ["rule", "so", "more", "own"] (sp_joined mg) := by
  obtain ⟨fa_sum_at, fd_sum_at, G_sum_at, M_sum_at, K_sum_at, B_sum_at⟩ := C_sum_at.ex
  refine Ca.mk' D sc_joined (fun vs H Q E h => ?_) (fun q_ f_ cdv A outer s H vs Q E hr h => ?_)
  · obtain ⟨F, _, _, _, _, _, _, _, rfl, _⟩ := h
    rfl
  · obtain ⟨F, v_rule, x_rule, v_so, x_so, v_more, x_more, x_own, rfl, P0, f_rule, f_so, f_more, hk⟩ := h
    have nd := sc_joined.nd
    have hu64 := hr.units
    have hu128 := hu128_of hr
    have O := P0.start
    refine ⟨_, (pss_one (ps_ret (pe_lc (own := [("one", 4)]) (g := gName 4) (tt := _) rfl nd (pi_list (pe_ix (ixTupK (K := K) rfl) (pv 0) pe_int (fun _ _ => rfl))) (blkOk_by (own := [("one", 4)]) (N := ["rule", "so", "more", "own", "one"]) (sc := defScope s_joined) (by decide +kernel)) (fun _ _ _ _ _ => (pg_name (i := 4) nd rfl (Or.inl rfl))) (fun _ _ _ _ _ => pts_nil) (fun _ _ _ _ _ => (pe_call G_sum_at (hr.mono (by decide)) rfl M_sum_at K_sum_at B_sum_at .nil passL (pa_cons (pv 4) (pa_cons (pv 3) (pa_cons pe_int (pa_cons (pv 1) (pa_cons (pv 2) pa_nil)))))))))), ?_⟩
    obtain ⟨p2, v5, v6, v7, v8, e3, h4, r9, r10, r11, r12⟩ := R.t4_ f_rule
    cases e3
    obtain ⟨p13, w14, e15, h16, hl17⟩ := R.lst_ r11
    cases e15
    obtain ⟨c23, L19, hL20, hLs21, hLd22⟩ := compS_L hk
    refine ⟨_, rfl, _, _, _, _, rfl, rfl, (SqTF O.s h4), rfl, _, rfl, ⟨_, (SqLF O.s h16)⟩, fun p24 hp25 => ?_⟩
    have z47 := O.was hp25
    refine lc_list (K := K) (xs := w14) (fun i H => ∃ (F_ : Hp) (st : Unit) (acc : List Int) (wa : List V), Same F F_ ∧ Ow _ F_ [(p24, .lst wa)] H ∧ RL F_ wa acc ∧ wa.length ≤ i ∧ L19 (List.drop i x_rule.c) acc st) ⟨F, (), [], [], Same.refl _, O.new hp25, RL.nil, Nat.zero_le _, hL20⟩ (fun i_ H_ _ hp_ => ?_) ?_ ?_
    · obtain ⟨_, _, _, _, hS_, hO_, _⟩ := hp_
      exact SqLF hO_.s (hS_ _ _ h16)
    · rintro i26 x27 H28 hi29 ⟨F34, st35, acc31, wa32, S36, O38, hl37, la33, hL20⟩
      have f_rule := f_rule.mono S36
      have f_so := f_so.mono S36
      have f_more := f_more.mono S36
      have h4 := S36 _ _ h4
      have r9 := r9.mono S36
      have r10 := r10.mono S36
      have r11 := r11.mono S36
      have r12 := r12.mono S36
      have h16 := S36 _ _ h16
      have hl17 := hl17.mono S36
      obtain ⟨y18, e39, r40⟩ := RL.got hl17 hi29
      rw [drop_at e39] at hL20
      have hk := hLs21 _ _ _ _ hL20
      refine ⟨rfl, ?_⟩
      refine ⟨_, rfl, _, rfl, _, rfl, _, rfl, _, _, _, _, _, _, _, _, _, rfl, O38.pre0, r40, f_so, f_more, wp_call hk (fun r41 er42 hk F43 H44 g45 => ?_) (fun n hn => hn.elim)⟩
      have O46 := O38.call0 g45
      have S_ := g45.f
      have f_rule := f_rule.mono S_
      have f_so := f_so.mono S_
      have f_more := f_more.mono S_
      have h4 := S_ _ _ h4
      have r9 := r9.mono S_
      have r10 := r10.mono S_
      have r11 := r11.mono S_
      have r12 := r12.mono S_
      have h16 := S_ _ _ h16
      have hl17 := hl17.mono S_
      have S36 := S36.trans S_
      have hl37 := hl37.mono S_
      have r40 := r40.mono S_
      refine ⟨_, (O46.at 0 rfl), (comp_len la33 hi29 hl17.len c23), ?_⟩
      exact ⟨F43, (), acc31 ++ [r41], wa32 ++ [V.int r41], S36, O46.set 0 (.lst (wa32 ++ [V.int r41])) rfl, RL.snoc hl37 R.int, by rw [List.length_append]; exact Nat.succ_le_succ la33, hk⟩
    rintro H48 ⟨F49, st50, acc51, wa52, S53, O54, hl55, la56, hL57⟩
    rw [drop_end hl17.len] at hL57
    have hk := hLd22 _ _ hL57
    have f_rule := f_rule.mono S53
    have f_so := f_so.mono S53
    have f_more := f_more.mono S53
    have h4 := S53 _ _ h4
    have r9 := r9.mono S53
    have r10 := r10.mono S53
    have r11 := r11.mono S53
    have r12 := r12.mono S53
    have h16 := S53 _ _ h16
    have hl17 := hl17.mono S53
    exact hk _ _  O54.g  _ _ z47 (O54.cf _ (List.mem_of_getElem? (i := 0) rfl)) (O54.at 0 rfl) hl55
abbrev s_over_tie : Stmt := top 20
theorem sc_over_tie : FnScope ["rule", "more", "own", "tie", "one"] ["rule", "more", "own", "tie"] (defScope s_over_tie) := ⟨rfl, rfl, rfl, by decide +kernel, rfl, by decide +kernel, by decide +kernel⟩
def m_over_tie (x_rule : (T4 (List Sm) (List Sm) (List Sm) Sm)) (x_more : (List Int)) (x_own : Int) (x_tie : Int) : M ((List Int)) :=
compS (fun (y18 : Sm) (st35 : Unit) =>
m_sum_at 12 y18 x_own x_tie ([] : List Int) x_more >>= fun r49 =>
.ok (some r49, ())) x_rule.b () >>= fun q66 =>
.ok q66.1
def sp_over_tie (mg : Str → Option Value) : Sp := fun vs H Q E => ∃ (F : Hp) (v_rule : V) (x_rule : (T4 (List Sm) (List Sm) (List Sm) Sm)) (v_more : V) (x_more : (List Int)) (x_own : Int) (x_tie : Int), vs = [v_rule, v_more, V.int x_own, V.int x_tie] ∧ Pre F [] H ∧ R (a := (T4 (List Sm) (List Sm) (List Sm) Sm)) F v_rule x_rule ∧ R (a := (List Int)) F v_more x_more ∧
  wp (m_over_tie x_rule x_more x_own x_tie) (fun r => ∀ (F' H' : Hp), Gr [] F H F' H' → ∀ (p : Addr) (w : (List V)), H p = none → F' p = none → H' p = some (.lst w) → RL (a := Int) F' w r → Q (.ref p) H')
  (fun n => ∀ (C : Addr) (H' : Hp), mg (Str.ofString n) = some (.ref C) → Kp [] H H' → E (.ref C) none H')
set_option maxHeartbeats 2000000 in
theorem ok_over_tie (nb : Nb mg) (C_sum_at : Ca P w K mg base "sum_at" 13 ["sum_told", "own", "tie", "so", "more"] (sp_sum_at 12 mg)) (D : Df K mg "over_tie" "over_tie" s_over_tie ["rule", "more", "own", "tie"]) : Ca P w K mg base "over_tie" 14 ["rule", "more", "own", "tie"] (sp_over_tie mg) := by
  obtain ⟨fa_sum_at, fd_sum_at, G_sum_at, M_sum_at, K_sum_at, B_sum_at⟩ := C_sum_at.ex
  refine Ca.mk' D sc_over_tie (fun vs H Q E h => ?_) (fun q_ f_ cdv A outer s H vs Q E hr h => ?_)
  · obtain ⟨F, _, _, _, _, _, _, rfl, _⟩ := h
    rfl
  · obtain ⟨F, v_rule, x_rule, v_more, x_more, x_own, x_tie, rfl, P0, f_rule, f_more, hk⟩ := h
    have nd := sc_over_tie.nd
    have hu64 := hr.units
    have hu128 := hu128_of hr
    have O := P0.start
    refine ⟨_, (pss_one (ps_ret (pe_lc (own := [("one", 4)]) (g := gName 4) (tt := _) rfl nd (pi_list (pe_ix (ixTupK (K := K) rfl) (pv 0) pe_int (fun _ _ => rfl))) (blkOk_by (own := [("one", 4)]) (N := ["rule", "more", "own", "tie", "one"]) (sc := defScope s_over_tie) (by decide +kernel)) (fun _ _ _ _ _ => (pg_name (i := 4) nd rfl (Or.inl rfl))) (fun _ _ _ _ _ => pts_nil) (fun _ _ _ _ _ => (pe_call G_sum_at (hr.mono (by decide)) rfl M_sum_at K_sum_at B_sum_at .nil passL (pa_cons (pv 4) (pa_cons (pv 2) (pa_cons (pv 3) (pa_cons (pe_lst pa_nil) (pa_cons (pv 1) pa_nil)))))))))), ?_⟩
    obtain ⟨p2, v5, v6, v7, v8, e3, h4, r9, r10, r11, r12⟩ := R.t4_ f_rule
    cases e3
    obtain ⟨p13, w14, e15, h16, hl17⟩ := R.lst_ r10
    cases e15
    obtain ⟨c23, L19, hL20, hLs21, hLd22⟩ := compS_L hk
    refine ⟨_, rfl, _, _, _, _, rfl, rfl, (SqTF O.s h4), rfl, _, rfl, ⟨_, (SqLF O.s h16)⟩, fun p24 hp25 => ?_⟩
    have z55 := O.was hp25
    refine lc_list (K := K) (xs := w14) (fun i H => ∃ (F_ : Hp) (st : Unit) (acc : List Int) (wa : List V), Same F F_ ∧ Ow _ F_ [(p24, .lst wa)] H ∧ RL F_ wa acc ∧ wa.length ≤ i ∧ L19 (List.drop i x_rule.b) acc st) ⟨F, (), [], [], Same.refl _, O.new hp25, RL.nil, Nat.zero_le _, hL20⟩ (fun i_ H_ _ hp_ => ?_) ?_ ?_
    · obtain ⟨_, _, _, _, hS_, hO_, _⟩ := hp_
      exact SqLF hO_.s (hS_ _ _ h16)
    · rintro i26 x27 H28 hi29 ⟨F34, st35, acc31, wa32, S36, O38, hl37, la33, hL20⟩
      have f_rule := f_rule.mono S36
      have f_more := f_more.mono S36
      have h4 := S36 _ _ h4
      have r9 := r9.mono S36
      have r10 := r10.mono S36
      have r11 := r11.mono S36
      have r12 := r12.mono S36
      have h16 := S36 _ _ h16
      have hl17 := hl17.mono S36
      obtain ⟨y18, e39, r40⟩ := RL.got hl17 hi29
      rw [drop_at e39] at hL20
      have hk := hLs21 _ _ _ _ hL20
      refine ⟨rfl, ?_⟩
      refine ⟨_, rfl, _, rfl, _, rfl, (by show 0 ≤ sizeLine; decide), fun p41 hp42 => ?_⟩
      have hl48 : RL (a := Int) F34 ([]) ([] : List Int) := RL.nil
      obtain ⟨F43, O44, S45, h46⟩ := O38.putE hp42 (.lst ([]))
      have f_rule := f_rule.mono S45
      have f_more := f_more.mono S45
      have h4 := S45 _ _ h4
      have r9 := r9.mono S45
      have r10 := r10.mono S45
      have r11 := r11.mono S45
      have r12 := r12.mono S45
      have h16 := S45 _ _ h16
      have hl17 := hl17.mono S45
      have S36 := S36.trans S45
      have hl37 := hl37.mono S45
      have r40 := r40.mono S45
      have hl48 := hl48.mono S45
      have h47 := R.lst (a := Int) h46 hl48
      refine ⟨_, rfl, _, _, _, _, _, _, _, _, _, rfl, O44.pre0, r40, h47, f_more, wp_call hk (fun r49 er50 hk F51 H52 g53 => ?_) (fun n hn => hn.elim)⟩
      have O54 := O44.call0 g53
      have S_ := g53.f
      have f_rule := f_rule.mono S_
      have f_more := f_more.mono S_
      have h4 := S_ _ _ h4
      have r9 := r9.mono S_
      have r10 := r10.mono S_
      have r11 := r11.mono S_
      have r12 := r12.mono S_
      have h16 := S_ _ _ h16
      have hl17 := hl17.mono S_
      have S36 := S36.trans S_
      have hl37 := hl37.mono S_
      have r40 := r40.mono S_
      have h47 := h47.mono S_
      refine ⟨_, (O54.at 0 rfl), (comp_len la33 hi29 hl17.len c23), ?_⟩
      exact ⟨F51, (), acc31 ++ [r49], wa32 ++ [V.int r49], S36, O54.set 0 (.lst (wa32 ++ [V.int r49])) rfl, RL.snoc hl37 R.int, by rw [List.length_append]; exact Nat.succ_le_succ la33, hk⟩
    rintro H56 ⟨F57, st58, acc59, wa60, S61, O62, hl63, la64, hL65⟩
    rw [drop_end hl17.len] at hL65
    have hk := hLd22 _ _ hL65
    have f_rule := f_rule.mono S61
    have f_more := f_more.mono S61
    have h4 := S61 _ _ h4
    have r9 := r9.mono S61
    have r10 := r10.mono S61
    have r11 := r11.mono S61
    have r12 := r12.mono S61
    have h16 := S61 _ _ h16
    have hl17 := hl17.mono S61
    exact hk _ _  O62.g  _ _ z55 (O62.cf _ (List.mem_of_getElem? (i := 0) rfl)) (O62.at 0 rfl) hl63
abbrev s_told_by : Stmt := top 21
theorem sc_told_by : FnScope ["rule", "so", "own"] ["rule", "so", "own"] (defScope s_told_by) := ⟨rfl, rfl, rfl, by decide +kernel, rfl, by decide +kernel, by decide +kernel⟩
def m_told_by (x_rule : (T4 (List Sm) (List Sm) (List Sm) Sm)) (x_so : (List Int)) (x_own : Int) : M (Int) :=
m_sum_at 12 x_rule.d x_own (0 : Int) x_so ([] : List Int) >>= fun r20 =>
.ok r20
def sp_told_by (mg : Str → Option Value) : Sp := fun vs H Q E => ∃ (F : Hp) (v_rule : V) (x_rule : (T4 (List Sm) (List Sm) (List Sm) Sm)) (v_so : V) (x_so : (List Int)) (x_own : Int), vs = [v_rule, v_so, V.int x_own] ∧ Pre F [] H ∧ R (a := (T4 (List Sm) (List Sm) (List Sm) Sm)) F v_rule x_rule ∧ R (a := (List Int)) F v_so x_so ∧
  wp (m_told_by x_rule x_so x_own) (fun r => ∀ (F' H' : Hp), Gr [] F H F' H' → Q (V.int r) H')
  (fun n => ∀ (C : Addr) (H' : Hp), mg (Str.ofString n) = some (.ref C) → Kp [] H H' → E (.ref C) none H')
set_option maxHeartbeats 2000000 in
theorem ok_told_by (nb : Nb mg) (C_sum_at : Ca P w K mg base "sum_at" 13 ["sum_told", "own", "tie", "so", "more"] (sp_sum_at 12 mg)) (D : Df K mg "told_by" "told_by" s_told_by ["rule", "so", "own"]) : Ca P w K mg base "told_by" 14 ["rule", "so", "own"] (sp_told_by mg) := by
  obtain ⟨fa_sum_at, fd_sum_at, G_sum_at, M_sum_at, K_sum_at, B_sum_at⟩ := C_sum_at.ex
  refine Ca.mk' D sc_told_by (fun vs H Q E h => ?_) (fun q_ f_ cdv A outer s H vs Q E hr h => ?_)
  · obtain ⟨F, _, _, _, _, _, rfl, _⟩ := h
    rfl
  · obtain ⟨F, v_rule, x_rule, v_so, x_so, x_own, rfl, P0, f_rule, f_so, hk⟩ := h
    have nd := sc_told_by.nd
    have hu64 := hr.units
    have hu128 := hu128_of hr
    have O := P0.start
    refine ⟨_, (pss_one (ps_ret (pe_call G_sum_at (hr.mono (by decide)) rfl M_sum_at K_sum_at B_sum_at .nil (passes_call (takes_of rfl rfl rfl rfl) fun _ _ _ _ h => h) (pa_cons (pe_ix (ixTupK (K := K) rfl) (pv 0) pe_int (fun _ _ => rfl)) (pa_cons (pv 2) (pa_cons pe_int (pa_cons (pv 1) (pa_cons (pe_lst pa_nil) pa_nil)))))))), ?_⟩
    obtain ⟨p1, v4, v5, v6, v7, e2, h3, r8, r9, r10, r11⟩ := R.t4_ f_rule
    cases e2
    refine ⟨_, rfl, _, _, _, _, rfl, rfl, (SqTF O.s h3), rfl, _, rfl, _, rfl, (by show 0 ≤ sizeLine; decide), fun p12 hp13 => ?_⟩
    have hl19 : RL (a := Int) F ([]) ([] : List Int) := RL.nil
    obtain ⟨F14, O15, S16, h17⟩ := O.putE hp13 (.lst ([]))
    have f_rule := f_rule.mono S16
    have f_so := f_so.mono S16
    have h3 := S16 _ _ h3
    have r8 := r8.mono S16
    have r9 := r9.mono S16
    have r10 := r10.mono S16
    have r11 := r11.mono S16
    have hl19 := hl19.mono S16
    have h18 := R.lst (a := Int) h17 hl19
    refine ⟨_, _, _, _, _, _, _, _, _, rfl, O15.pre0, r11, f_so, h18, wp_call hk (fun r20 er21 hk F22 H23 g24 => ?_) (fun n hn C H1 hC kp => hn C H1 hC (O15.kp0 kp))⟩
    have O25 := O15.call0 g24
    have S_ := g24.f
    have f_rule := f_rule.mono S_
    have f_so := f_so.mono S_
    have h3 := S_ _ _ h3
    have r8 := r8.mono S_
    have r9 := r9.mono S_
    have r10 := r10.mono S_
    have r11 := r11.mono S_
    have h18 := h18.mono S_
    exact hk _ _  O25.g 
abbrev s_tied_places : Stmt := top 23
theorem sc_tied_places : FnScope ["many", "ties", "found", "a", "b", "length", "near", "place"] ["many", "ties"] (defScope s_tied_places) := ⟨rfl, rfl, rfl, by decide +kernel, rfl, by decide +kernel, by decide +kernel⟩
def addAt (fs : List (List Int)) (a b : Int) : M (List (List Int)) := match ixN fs.length a with
  | some j => (match fs[j]? with
    | some x => appL x b >>= fun y => .ok (fs.set j y)
    | none => bad)
  | none => bad
def m_tied_places (x_many : Int) (x_ties : List (T3 Int Int Int)) : M (List (List Int)) :=
  chk (okR x_many) >>= fun _ =>
  loopN (fun (t : T3 Int Int Int) (fs : List (List Int)) => addAt fs t.a t.b >>= fun f1 => addAt f1 t.b t.a) (sortT x_ties) (List.replicate x_many.toNat []) >>= fun fs =>
  .ok (fs.map sortT)
theorem wp_addAt {b : Type} {Q : b → Prop} {E : String → Prop} {fs : List (List Int)} {a y : Int} {k : List (List Int) → M b} (h : wp (addAt fs a y >>= k) Q E) :
    ∃ j x, ixN fs.length a = some j ∧ fs[j]? = some x ∧ x.length < sizeLine ∧ wp (k (fs.set j (x ++ [y]))) Q E := by
  unfold addAt at h
  cases e : ixN fs.length a with
  | none => rw [e] at h; exact h.elim
  | some j =>
    rw [e] at h
    have h : wp ((match fs[j]? with
      | some x => appL x y >>= fun y => .ok (fs.set j y)
      | none => bad) >>= k) Q E := h
    cases e2 : fs[j]? with
    | none => rw [e2] at h; exact h.elim
    | some x =>
      rw [e2] at h
      have h : wp ((appL x y >>= fun y => .ok (fs.set j y)) >>= k) Q E := h
      rw [wp_bind] at h
      obtain ⟨c, h⟩ := wp_appL h
      exact ⟨j, x, rfl, e2, c, h⟩
/-- all lists are new -/
def sp_tied_places_own (mg : Str → Option Value) : Sp := fun vs H Q E => ∃ (F : Hp) (x_many : Int) (v_ties : V) (x_ties : List (T3 Int Int Int)), vs = [.int x_many, v_ties] ∧ Pre F [] H ∧ R F v_ties x_ties ∧
  wp (m_tied_places x_many x_ties) (fun r => ∀ (F' H' : Hp) (p : Addr) (ps : List LC), Gr [] F H F' H' → OwnLL H F' H' p ps → ps.map (·.2) = r → Q (.ref p) H')
  (fun n => ∀ (C : Addr) (H' : Hp), mg (Str.ofString n) = some (.ref C) → Kp [] H H' → E (.ref C) none H')
def sp_tied_places (mg : Str → Option Value) : Sp := fun vs H Q E => ∃ (F : Hp) (x_many : Int) (v_ties : V) (x_ties : (List (T3 Int Int Int))), vs = [.int x_many, v_ties] ∧ Pre F [] H ∧ R (a := (List (T3 Int Int Int))) F v_ties x_ties ∧
  wp (m_tied_places x_many x_ties) (fun r => ∀ (F' H' : Hp), Gr [] F H F' H' → ∀ (p : Addr) (w : List V), H p = none → F' p = none → H' p = some (.lst w) → RL (a := (List Int)) F' w r → Q (.ref p) H')
  (fun n => ∀ (C : Addr) (H' : Hp), mg (Str.ofString n) = some (.ref C) → Kp [] H H' → E (.ref C) none H')
theorem lc_set {ps : List LC} {j : Nat} {c : LC} {y : List Int} (h : ps[j]? = some c) : (ps.set j (c.1, y)).map (·.1) = ps.map (·.1) ∧ (ps.set j (c.1, y)).map (·.2) = (ps.map (·.2)).set j y := by
  refine ⟨?_, by rw [List.map_set]⟩
  rw [List.map_set]
  refine List.ext_getElem? fun k => ?_
  by_cases hk : j = k
  · subst hk
    have hl := (List.getElem?_eq_some_iff.mp h).1
    rw [List.getElem?_set_self (by simpa using hl), List.getElem?_map, h]
    rfl
  · rw [List.getElem?_set_ne hk]
/-- one append -/
theorem tp_app {Z : Ent} {F H : Hp} {D : Addr} {o : HO} {rest : List (Addr × HO)} {ps : List LC} (O : Ow Z F ((D, o) :: ps.map lcell) H) {j : Nat} {c : LC} (h : ps[j]? = some c) (y : Int) :
    Ow Z F ((D, o) :: (ps.set j (c.1, c.2 ++ [y])).map lcell) (upd H c.1 (.lst (c.2.map V.int ++ [V.int y]))) ∧ H c.1 = some (.lst (c.2.map V.int)) := by
  have e : ((D, o) :: ps.map lcell)[j + 1]? = some (c.1, .lst (c.2.map V.int)) := by
    rw [List.getElem?_cons_succ, List.getElem?_map, h]
    rfl
  refine ⟨?_, O.at (j + 1) e⟩
  have q := O.set (j + 1) (.lst (c.2.map V.int ++ [V.int y])) e
  have e2 : ((D, o) :: ps.map lcell).set (j + 1) (c.1, .lst (c.2.map V.int ++ [V.int y])) = (D, o) :: (ps.set j (c.1, c.2 ++ [y])).map lcell := by
    rw [List.set_cons_succ, List.map_set]
    unfold lcell
    rw [List.map_append]
    rfl
  rw [e2] at q
  exact q
theorem tp_at {ps : List LC} {j : Nat} {x : List Int} (h : (ps.map (·.2))[j]? = some x) : ∃ c, ps[j]? = some c ∧ c.2 = x := by
  rw [List.getElem?_map] at h
  cases e : ps[j]? with
  | none => rw [e] at h; cases h
  | some c => rw [e] at h; exact ⟨c, rfl, Option.some.inj h⟩
theorem tp_ix {ps : List LC} {a : Int} {j : Nat} {c : LC} (e : ixN (ps.map (·.2)).length a = some j) (h : ps[j]? = some c) : atI (lrefs ps) a = some (.ref c.1) := by
  unfold atI lrefs
  rw [List.length_map] at e ⊢
  rw [e]
  show (lrefs ps)[j]? = _
  rw [List.getElem?_map, h]
  rfl
set_option maxHeartbeats 4000000 in
theorem ok_tied_places_own (nb : Nb mg) (D : Df K mg "tied_places" "tied_places" s_tied_places ["many", "ties"]) : Ca P w K mg base "tied_places" 1 ["many", "ties"] (sp_tied_places_own mg) := by
  refine Ca.mk' D sc_tied_places (fun vs H Q E h => ?_) (fun q_ f_ cdv A outer s H vs Q E hr h => ?_)
  · obtain ⟨F, _, _, _, rfl, _⟩ := h
    rfl
  · obtain ⟨F, x_many, v_ties, x_ties, rfl, P0, f_ties, hk⟩ := h
    have nd := sc_tied_places.nd
    have hu128 := hu128_of hr
    have O := P0.start
    refine ⟨_, pss_cons (ps_setLc (i := 2) (own := [("place", 7)]) (g := _) (tt := _) rfl nd rfl rfl (sw_true rfl rfl rfl (by decide +kernel)) (pi_range1 rfl nb.b_range (pa_cons (pv 0) pa_nil))
        (blkOk_by (own := [("place", 7)]) (N := ["many", "ties", "found", "a", "b", "length", "near", "place"]) (sc := defScope s_tied_places) (by decide +kernel)) (fun _ _ _ _ _ => (pg_name (i := 7) nd rfl (Or.inl rfl))) (fun _ _ _ _ _ => pts_nil) (fun _ _ _ _ _ => pe_lst pa_nil))
      (pss_cons (ps_for (passes_of rfl) rfl (pi_list (pe_callB (cr_sortedT (T3 Int Int Int) hu128) (by rfl) nb.b_sorted (by decide +kernel) (pa_cons (pv 1) pa_nil)))
        (pg_tup rfl (pgs_cons (pg_name (i := 3) nd rfl (Or.inl rfl)) (pgs_cons (pg_name (i := 4) nd rfl (Or.inl rfl)) (pgs_cons (pg_name (i := 5) nd rfl (Or.inl rfl)) pgs_nil))))
        (pss_cons (ps_expr (pe_bm PySem.F.plainAttrs_list PySem.F.slot_list_append PySem.F.type_list_append mt_append (pe_ix ix_list (pv 2) (pv 3) (fun _ _ => rfl)) (pa_cons (pv 4) pa_nil)))
          (pss_one (ps_expr (pe_bm PySem.F.plainAttrs_list PySem.F.slot_list_append PySem.F.type_list_append mt_append (pe_ix ix_list (pv 2) (pv 4) (fun _ _ => rfl)) (pa_cons (pv 3) pa_nil))))))
      (pss_one (ps_ret (pe_lc (own := [("near", 6)]) (g := _) (tt := _) rfl nd (pi_list (pv 2))
        (blkOk_by (own := [("near", 6)]) (N := ["many", "ties", "found", "a", "b", "length", "near", "place"]) (sc := defScope s_tied_places) (by decide +kernel)) (fun _ _ _ _ _ => (pg_name (i := 6) nd rfl (Or.inl rfl))) (fun _ _ _ _ _ => pts_nil)
        (fun _ _ _ _ _ => pe_callB (cr_sortedT Int hu128) (by rfl) nb.b_sorted (by decide +kernel) (pa_cons (pv 6) pa_nil)))))), ?_⟩
    obtain ⟨c1, hk⟩ := wp_chk hk
    obtain ⟨L, hL, hLs, hLd⟩ := loopN_L hk
    refine ⟨_, rfl, _, rfl, c1.lo, c1.hi, fun D hD => ?_⟩
    refine lc_range (lo := 0) (n := x_many.toNat) (fun i H => ∃ ps : List LC, Ow _ F ((D, .lst (lrefs ps)) :: ps.map lcell) H ∧ ps.map (·.2) = List.replicate i []) ⟨[], O.new hD, rfl⟩ ?_ ?_
    · rintro i H1 hi ⟨ps, O1, e1⟩
      refine ⟨rfl, (by show 0 ≤ sizeLine; decide), fun q hq => ?_⟩
      have O2 := O1.new (o := .lst []) hq
      have hlen : ps.length = i := by
        have := congrArg List.length e1
        simpa using this
      have b := c1.2
      refine ⟨_, O2.at 1 rfl, lt_line (by rw [List.length_map]; omega), ps ++ [(q, [])], ?_, by rw [List.map_append, e1, List.replicate_succ']; rfl⟩
      have O3 := O2.set 1 (.lst ((lrefs ps) ++ [V.ref q])) rfl
      have ea : lrefs (ps ++ [(q, [])]) = lrefs ps ++ [V.ref q] := List.map_append
      rw [ea, List.map_append]
      refine O3.perm ?_
      show ((q, HO.lst []) :: (D, _) :: ps.map lcell).Perm ((D, _) :: (ps.map lcell ++ [(q, HO.lst [])]))
      refine (List.Perm.swap _ _ _).trans (List.Perm.cons _ ?_)
      exact (List.perm_append_comm (l₁ := [(q, HO.lst [])]) (l₂ := ps.map lcell))
    · rintro H1 ⟨ps, O1, e1⟩
      obtain ⟨p1, w1, e2, h2, hl2⟩ := R.lst_ f_ties
      cases e2
      refine ⟨_, rfl, _, _, _, rfl, O1.s _ _ h2, RL.mono hl2 O1.s, fun p3 hp3 => ?_⟩
      obtain ⟨F4, O4, S4, h4⟩ := O1.putE hp3 (.lst (sortV w1 x_ties))
      have hl4 := (RL.sorted hl2).mono S4
      refine ⟨_, rfl, ⟨_, SqLF O4.s h4⟩, ?_⟩
      rw [← e1] at hL
      refine for_list (K := K) (xs := sortV w1 x_ties) (fun i σ H => ∃ (ps' : List LC) (t3 t4 t5 : Option V), σ = [some (V.int x_many), some (V.ref p1), some (V.ref D), t3, t4, t5, none, none] ∧ Ow _ F4 ((D, .lst (lrefs ps')) :: ps'.map lcell) H ∧ ps'.length = x_many.toNat ∧ L (List.drop i (sortT x_ties)) (ps'.map fun (c : LC) => c.2))
        ⟨ps, none, none, none, rfl, O4, (by have := congrArg List.length e1; simpa using this), hL⟩ (fun i_ σ_ H_ _ hp_ => ?_) ?_ ?_
      · obtain ⟨_, _, _, _, _, hO_, _⟩ := hp_
        exact SqLF hO_.s h4
      · rintro i x σ H5 hi ⟨ps', t3, t4, t5, rfl, O5, hl5, hL5⟩
        obtain ⟨y, ey, hy⟩ := RL.got hl4 hi
        rw [drop_at ey] at hL5
        have hk := hLs _ _ _ hL5
        obtain ⟨p6, v1, v2, v3, e6, h6, r1, r2, r3⟩ := R.t3_ hy
        cases e6
        obtain rfl := R.int_ r1
        obtain rfl := R.int_ r2
        obtain rfl := R.int_ r3
        obtain ⟨j, x, ej, ex, cl, hk⟩ := wp_addAt hk
        have hk := wp_bind (k := fun r => Except.ok r) |>.mpr hk
        obtain ⟨j2, x2, ej2, ex2, cl2, hk⟩ := wp_addAt hk
        obtain ⟨c, hc, rfl⟩ := tp_at ex
        obtain ⟨O6, hq6⟩ := tp_app (rest := []) O5 hc y.b
        obtain ⟨l1, l2⟩ := lc_set (y := c.2 ++ [y.b]) hc
        rw [← l2] at ex2 ej2
        obtain ⟨c', hc', rfl⟩ := tp_at ex2
        obtain ⟨O7, hq7⟩ := tp_app (rest := []) O6 hc' y.a
        obtain ⟨l3, l4⟩ := lc_set (y := c'.2 ++ [y.a]) hc'
        have eD : lrefs (ps'.set j (c.1, c.2 ++ [y.b])) = lrefs ps' := by
          have := congrArg (List.map V.ref) l1
          rw [List.map_map, List.map_map] at this
          exact this
        have eD2 : lrefs ((ps'.set j (c.1, c.2 ++ [y.b])).set j2 (c'.1, c'.2 ++ [y.a])) = lrefs (ps'.set j (c.1, c.2 ++ [y.b])) := by
          have := congrArg (List.map V.ref) l3
          rw [List.map_map, List.map_map] at this
          exact this
        have i2 : atI (lrefs ps') y.b = some (.ref c'.1) := by
          rw [← eD]
          exact tp_ix ej2 hc'
        refine ⟨_, _, rfl, SqTF O5.s h6, rfl, _, _, rfl, _, _, rfl, _, _, rfl, rfl, _, rfl, _, rfl, _, _, _, _, rfl, rfl, SqL.of (O5.at 0 rfl), tp_ix ej hc, .inl ⟨rfl, _, SqL.of hq6⟩, _, rfl, _, _, _, rfl, rfl, hq6, by rw [List.length_map]; exact cl, ?_⟩
        refine ⟨_, rfl, _, rfl, _, _, _, _, rfl, rfl, SqL.of (O6.at 0 rfl), i2, .inl ⟨rfl, _, SqL.of hq7⟩, _, rfl, _, _, _, rfl, rfl, hq7, by rw [List.length_map]; exact cl2, ?_⟩
        refine ⟨_, _, _, _, rfl, by rw [eD2, eD]; exact O7, by rw [List.length_set, List.length_set]; exact hl5, ?_⟩
        rw [l4, l2]
        exact hk
      · rintro σ H5 ⟨ps', t3, t4, t5, rfl, O5, hl5, hL5⟩
        rw [drop_end hl4.len] at hL5
        have hk := hLd _ hL5
        refine ⟨_, rfl, _, rfl, ⟨_, SqL.of (O5.at 0 rfl)⟩, fun D2 hD2 => ?_⟩
        have b1 := c1.2
        refine lc_list (K := K) (xs := lrefs ps') (fun i H => ∃ qs : List LC, Ow _ F4 ((D2, .lst (lrefs qs)) :: (qs.map lcell ++ ((D, .lst (lrefs ps')) :: ps'.map lcell))) H ∧ qs.map (·.2) = ((ps'.map (·.2)).take i).map sortT)
          ⟨[], O5.new hD2, by simp⟩ (fun i_ H_ _ hp_ => ?_) ?_ ?_
        · obtain ⟨qs, hO_, _⟩ := hp_
          exact SqL.of (hO_.ch (D, _) (List.mem_cons_of_mem _ (List.mem_append_right _ List.mem_cons_self)))
        · rintro i x H6 hi ⟨qs, O6, e6⟩
          obtain ⟨c, hc, rfl⟩ : ∃ c, ps'[i]? = some c ∧ x = V.ref c.1 := by
            have hi : (ps'.map fun (c : LC) => V.ref c.1)[i]? = some x := hi
            rw [List.getElem?_map] at hi
            cases e : ps'[i]? with
            | none => rw [e] at hi; cases hi
            | some c => rw [e] at hi; exact ⟨c, rfl, (Option.some.inj hi).symm⟩
          have hm : lcell c ∈ ps'.map lcell := List.mem_map.mpr ⟨c, List.mem_of_getElem? hc, rfl⟩
          have hq := O6.ch (lcell c) (List.mem_cons_of_mem _ (List.mem_append_right _ (List.mem_cons_of_mem _ hm)))
          have hil := (List.getElem?_eq_some_iff.mp hc).1
          have hql : qs.length ≤ i := by
            have := congrArg List.length e6
            simp at this
            omega
          have es : sortV (c.2.map V.int) c.2 = (sortT c.2).map V.int := (RL.sorted (H := F) RL.of_ints).ints
          refine ⟨rfl, _, rfl, _, _, c.2, rfl, hq, RL.of_ints, fun p hp => ?_⟩
          have O7 := O6.new (o := .lst (sortV (c.2.map V.int) c.2)) hp
          refine ⟨_, O7.at 1 rfl, lt_line (by rw [List.length_map]; omega), qs ++ [(p, sortT c.2)], ?_, ?_⟩
          · have O8 := O7.set 1 (.lst (lrefs qs ++ [V.ref p])) rfl
            have ea : lrefs (qs ++ [(p, sortT c.2)]) = lrefs qs ++ [V.ref p] := List.map_append
            rw [ea, List.map_append]
            refine O8.perm ?_
            rw [es]
            show ((p, HO.lst _) :: (D2, _) :: (qs.map lcell ++ _)).Perm ((D2, _) :: (qs.map lcell ++ [(p, HO.lst _)] ++ _))
            refine (List.Perm.swap _ _ _).trans (List.Perm.cons _ ?_)
            rw [List.append_assoc]
            exact List.perm_middle.symm
          · rw [List.map_append, e6]
            have e7 : (ps'.map (·.2))[i]? = some c.2 := by rw [List.getElem?_map, hc]; rfl
            rw [List.take_succ, e7, List.map_append]
            rfl
        · rintro H6 ⟨qs, O6, e6⟩
          have el : (lrefs ps').length = (ps'.map (·.2)).length := by rw [List.length_map, List.length_map]
          rw [el, List.take_length] at e6
          have hsub : ∀ c ∈ qs, lcell c ∈ (D2, HO.lst (lrefs qs)) :: (qs.map lcell ++ ((D, .lst (lrefs ps')) :: ps'.map lcell)) := fun c hc => List.mem_cons_of_mem _ (List.mem_append_left _ (List.mem_map.mpr ⟨c, hc, rfl⟩))
          have nas : ∀ b : Addr, ¬ b ∈ ([] : List Addr) := fun b h => nomatch h
          refine hk F4 H6 D2 qs O6.g ⟨O5.was hD2, O6.cf _ List.mem_cons_self, O6.ch _ List.mem_cons_self, fun c hc => (O6.ca _ (hsub c hc)).resolve_left (nas _), fun c hc => O6.cf _ (hsub c hc), fun c hc => O6.ch _ (hsub c hc), ?_⟩ e6
          have n := O6.nd
          rw [List.map_cons, List.map_append, List.nodup_cons, List.nodup_append] at n
          rw [List.nodup_cons]
          have em : (qs.map lcell).map (·.1) = qs.map (·.1) := by
            rw [List.map_map]
            rfl
          rw [em] at n
          exact ⟨fun h => n.1 (List.mem_append_left _ h), n.2.1⟩
theorem ok_tied_places (nb : Nb mg) (D : Df K mg "tied_places" "tied_places" s_tied_places ["many", "ties"]) : Ca P w K mg base "tied_places" 1 ["many", "ties"] (sp_tied_places mg) := by
  refine FnOk.impC (ok_tied_places_own nb D) fun vs H Q E h => ?_
  obtain ⟨F, x_many, v_ties, x_ties, rfl, P0, f_ties, hk⟩ := h
  refine ⟨F, x_many, v_ties, x_ties, rfl, P0, f_ties, wp_mono hk fun r k F' H' p ps g L e => ?_⟩
  obtain ⟨F2, g2, n2, rl⟩ := L.frz g
  rw [e] at rl
  exact k F2 H' g2 p _ L.pn n2 L.ph rl

abbrev s_need_place : Stmt := top 24
theorem sc_need_place : FnScope ["tree", "place"] ["tree", "place"] (defScope s_need_place) := ⟨rfl, rfl, rfl, by decide +kernel, rfl, by decide +kernel, by decide +kernel⟩
def m_need_place (x_tree : ((List Int) × (List (T3 Int Int Int)))) (x_place : Int) : M (Unit) :=
if (0 : Int) ≤ x_place then (
if x_place < (x_tree.1.length : Int) then (
.ok ())
else (
raise "NoPlace"))
else (
raise "NoPlace")
def sp_need_place (mg : Str → Option Value) : Sp := fun vs H Q E => ∃ (F : Hp) (v_tree : V) (x_tree : ((List Int) × (List (T3 Int Int Int)))) (x_place : Int), vs = [v_tree, V.int x_place] ∧ Pre F [] H ∧ R (a := ((List Int) × (List (T3 Int Int Int)))) F v_tree x_tree ∧
  wp (m_need_place x_tree x_place) (fun r => ∀ (F' H' : Hp), Gr [] F H F' H' → Q .non H')
  (fun n => ∀ (C : Addr) (H' : Hp), mg (Str.ofString n) = some (.ref C) → Kp [] H H' → E (.ref C) none H')
set_option maxHeartbeats 2000000 in
theorem ok_need_place (nb : Nb mg) (E_NoPlace : ∃ C, Xc K mg "NoPlace" C) (D : Df K mg "need_place" "need_place" s_need_place ["tree", "place"]) : Ca P w K mg base "need_place" 1 ["tree", "place"] (sp_need_place mg) := by
  obtain ⟨XC_NoPlace, X_NoPlace⟩ := E_NoPlace
  refine Ca.mk' D sc_need_place (fun vs H Q E h => ?_) (fun q_ f_ cdv A outer s H vs Q E hr h => ?_)
  · obtain ⟨F, _, _, _, rfl, _⟩ := h
    rfl
  · obtain ⟨F, v_tree, x_tree, x_place, rfl, P0, f_tree, hk⟩ := h
    have nd := sc_need_place.nd
    have hu64 := hr.units
    have hu128 := hu128_of hr
    have O := P0.start
    refine ⟨_, (pss_one (ps_if (pt_not (pt_chain op_le op_lt pe_int (pv 1) (pe_callB call_lenT (by rfl) nb.b_len PySem.boot_len (pa_cons (pe_ix (ixTupK (K := K) rfl) (pv 0) pe_int (fun _ _ => rfl)) pa_nil)))) (pss_one (ps_raise rfl (takes_of rfl rfl rfl rfl) (pmk_own PySem.F.excBase_ValueError X_NoPlace.x X_NoPlace.g X_NoPlace.k (raises_own X_NoPlace.b X_NoPlace.t) rfl))) pss_nil)), ?_⟩
    refine ⟨_, rfl, _, _, rfl, rfl, _, rfl, ?_⟩
    refine iteD (fun q1 => ?_) (fun q1 => ?_)
    · have hk := wp_if hk q1
      obtain ⟨p2, v5, v6, e3, h4, r7, r8⟩ := R.t2_ f_tree
      cases e3
      obtain ⟨p9, w10, e11, h12, hl13⟩ := R.lst_ r7
      cases e11
      refine ⟨_, rfl, _, _, _, _, rfl, rfl, (SqTF O.s h4), rfl, _, _, _, rfl, (.inl (O.s _ _ h12)), hl13.len, _, _, rfl, rfl, _, rfl, ?_⟩
      refine iteN (fun q14 => ?_) (fun q14 => ?_)
      · have hk := wp_if hk q14
        exact hk _ _  O.g 
      · have hk := wp_el hk q14
        exact hk _ _ X_NoPlace.g O.kp
    · have hk := wp_el hk q1
      refine ⟨_, rfl, ?_⟩
      refine iteNF ?_
      exact hk _ _ X_NoPlace.g O.kp
abbrev s_lengths_of : Stmt := top 25
theorem sc_lengths_of : FnScope ["tree", "found", "a", "b", "length"] ["tree"] (defScope s_lengths_of) := ⟨rfl, rfl, rfl, by decide +kernel, rfl, by decide +kernel, by decide +kernel⟩
def m_lengths_of (x_tree : ((List Int) × (List (T3 Int Int Int)))) : M ((List ((Int × Int) × Int))) :=
loopN (fun (y19 : (T3 Int Int Int)) (st30 : (List ((Int × Int) × Int))) =>
putD st30 ((y19.a, y19.b).1, (y19.a, y19.b).2) y19.c >>= fun z64 =>
putD z64 ((y19.b, y19.a).1, (y19.b, y19.a).2) y19.c >>= fun z82 =>
.ok z82) x_tree.2 ([] : (List ((Int × Int) × Int))) >>= fun st88 =>
.ok st88
def sp_lengths_of (mg : Str → Option Value) : Sp := fun vs H Q E => ∃ (F : Hp) (v_tree : V) (x_tree : ((List Int) × (List (T3 Int Int Int)))), vs = [v_tree] ∧ Pre F [] H ∧ R (a := ((List Int) × (List (T3 Int Int Int)))) F v_tree x_tree ∧
  wp (m_lengths_of x_tree) (fun r => ∀ (F' H' : Hp), Gr [] F H F' H' → ∀ v : V, RDv (κ := (Int × Int)) (β := Int) F' v r → Q v H')
  (fun n => ∀ (C : Addr) (H' : Hp), mg (Str.ofString n) = some (.ref C) → Kp [] H H' → E (.ref C) none H')
set_option maxHeartbeats 2000000 in
theorem ok_lengths_of (nb : Nb mg) (D : Df K mg "lengths_of" "lengths_of" s_lengths_of ["tree"]) : Ca P w K mg base "lengths_of" 1 ["tree"] (sp_lengths_of mg) := by
  refine Ca.mk' D sc_lengths_of (fun vs H Q E h => ?_) (fun q_ f_ cdv A outer s H vs Q E hr h => ?_)
  · obtain ⟨F, _, _, rfl, _⟩ := h
    rfl
  · obtain ⟨F, v_tree, x_tree, rfl, P0, f_tree, hk⟩ := h
    have nd := sc_lengths_of.nd
    have hu64 := hr.units
    have hu128 := hu128_of hr
    have O := P0.start
    refine ⟨_, (pss_cons (ps_set (i := 1) nd rfl (Or.inl rfl) pe_dnewT)
  (pss_cons (ps_for (passes_of rfl) rfl (pi_list (pe_ix (ixTupK (K := K) rfl) (pv 0) pe_int (fun _ _ => rfl))) (pg_tup rfl (pgs_cons (pg_name (i := 2) nd rfl (Or.inl rfl)) (pgs_cons (pg_name (i := 3) nd rfl (Or.inl rfl)) (pgs_cons (pg_name (i := 4) nd rfl (Or.inl rfl)) pgs_nil)))) (pss_cons (ps_dput (u1_of hu64) (pv 1) (pe_tup (pa_cons (pv 2) (pa_cons (pv 3) pa_nil))) (pv 4) rfl)
  (pss_one (ps_dput (u1_of hu64) (pv 1) (pe_tup (pa_cons (pv 3) (pa_cons (pv 2) pa_nil))) (pv 4) rfl))))
  (pss_one (ps_ret (pv 1))))), ?_⟩
    refine fun p2 hp3 => ?_
    have hl5 : RD (κ := (Int × Int)) (β := Int) F [] ([] : (List ((Int × Int) × Int))) := RD.nil
    have z6 := O.was hp3
    have O4 := O.new (o := .dT []) hp3
    obtain ⟨p7, v10, v11, e8, h9, r12, r13⟩ := R.t2_ f_tree
    cases e8
    obtain ⟨p14, w15, e16, h17, hl18⟩ := R.lst_ r13
    cases e16
    obtain ⟨L20, hL21, hLs22, hLd23⟩ := loopN_L hk
    refine ⟨_, rfl, _, _, _, _, rfl, rfl, (SqTF O4.s h9), rfl, _, rfl, ⟨_, (SqLF O4.s h17)⟩, ?_⟩
    refine for_list (K := K) (xs := w15) (fun i σ H => ∃ (F_ : Hp) (st : (List ((Int × Int) × Int))) (w_0 : (List (List Key × V))) (t_0 : Option V) (t_1 : Option V) (t_2 : Option V), σ = [some (V.ref p7), some (V.ref p2), t_0, t_1, t_2] ∧ Same F F_ ∧ Ow _ F_ [(p2, .dT w_0)] H ∧ RD (κ := (Int × Int)) (β := Int) F_ w_0 st ∧ L20 (List.drop i x_tree.2) st) ⟨F, ([] : (List ((Int × Int) × Int))), [], none, none, none, rfl, Same.refl _, O4, hl5, hL21⟩ (fun i_ σ_ H_ _ hp_ => ?_) ?_ ?_
    · obtain ⟨_, _, _, _, _, _, _, hS_, hO_, _⟩ := hp_
      exact SqLF hO_.s (hS_ _ _ h17)
    · rintro i24 x25 sg26 H27 hi28 ⟨F36, st30, w31, t33, t34, t35, rfl, S29, O37, hl32, hL21⟩
      have f_tree := f_tree.mono S29
      have h9 := S29 _ _ h9
      have r12 := r12.mono S29
      have r13 := r13.mono S29
      have h17 := S29 _ _ h17
      have hl18 := hl18.mono S29
      obtain ⟨y19, e38, r39⟩ := RL.got hl18 hi28
      rw [drop_at e38] at hL21
      have hk := hLs22 _ _ _ hL21
      obtain ⟨p40, v43, v44, v45, e41, h42, r46, r47, r48⟩ := R.t3_ r39
      cases e41
      obtain rfl := R.int_ r46
      obtain rfl := R.int_ r47
      obtain rfl := R.int_ r48
      refine ⟨_, _, rfl, (SqTF O37.s h42), rfl, _, _, rfl, _, _, rfl, _, _, rfl, rfl, _, rfl, _, rfl, _, rfl, _, rfl, (by show 2 ≤ sizeLine; decide), fun p49 hp50 => ?_⟩
      obtain ⟨F51, O52, S53, h54⟩ := O37.putE hp50 (.tup [V.int y19.a, V.int y19.b])
      have f_tree := f_tree.mono S53
      have h9 := S53 _ _ h9
      have r12 := r12.mono S53
      have r13 := r13.mono S53
      have h17 := S53 _ _ h17
      have hl18 := hl18.mono S53
      have hl32 := hl32.mono S53
      have S29 := S29.trans S53
      have r39 := r39.mono S53
      have h42 := S53 _ _ h42
      have h55 : R (a := (Int × Int)) F51 (.ref p49) (y19.a, y19.b) := R.t2 h54 R.int R.int
      obtain ⟨p56, v59, v60, e57, h58, r61, r62⟩ := R.t2_ h55
      cases e57
      obtain rfl := R.int_ r61
      obtain rfl := R.int_ r62
      obtain ⟨c63, hk⟩ := wp_putD hk
      refine ⟨_, _, rfl, (dput_T (v := (V.int y19.c)) (O52.at 0 rfl) (O52.s _ _ h58) (by rw [RD.len hl32]; exact c63)), ?_⟩
      have O65 := O52.set 0 (.dT (putK w31 (DK.kk ((y19.a, y19.b).1, (y19.a, y19.b).2)) (V.int y19.c))) rfl
      have hl66 : RD (κ := (Int × Int)) (β := Int) F51 (putK w31 (DK.kk ((y19.a, y19.b).1, (y19.a, y19.b).2)) (V.int y19.c)) (dPut st30 ((y19.a, y19.b).1, (y19.a, y19.b).2) y19.c) := RD.put hl32 ((y19.a, y19.b).1, (y19.a, y19.b).2) R.int
      refine ⟨_, rfl, _, rfl, _, rfl, _, rfl, (by show 2 ≤ sizeLine; decide), fun p67 hp68 => ?_⟩
      obtain ⟨F69, O70, S71, h72⟩ := O65.putE hp68 (.tup [V.int y19.b, V.int y19.a])
      have f_tree := f_tree.mono S71
      have h9 := S71 _ _ h9
      have r12 := r12.mono S71
      have r13 := r13.mono S71
      have h17 := S71 _ _ h17
      have hl18 := hl18.mono S71
      have S29 := S29.trans S71
      have r39 := r39.mono S71
      have h42 := S71 _ _ h42
      have h55 := h55.mono S71
      have h58 := S71 _ _ h58
      have hl66 := hl66.mono S71
      have h73 : R (a := (Int × Int)) F69 (.ref p67) (y19.b, y19.a) := R.t2 h72 R.int R.int
      obtain ⟨p74, v77, v78, e75, h76, r79, r80⟩ := R.t2_ h73
      cases e75
      obtain rfl := R.int_ r79
      obtain rfl := R.int_ r80
      obtain ⟨c81, hk⟩ := wp_putD hk
      refine ⟨_, _, rfl, (dput_T (v := (V.int y19.c)) (O70.at 0 rfl) (O70.s _ _ h76) (by rw [RD.len hl66]; exact c81)), ?_⟩
      have O83 := O70.set 0 (.dT (putK (putK w31 (DK.kk ((y19.a, y19.b).1, (y19.a, y19.b).2)) (V.int y19.c)) (DK.kk ((y19.b, y19.a).1, (y19.b, y19.a).2)) (V.int y19.c))) rfl
      have hl84 : RD (κ := (Int × Int)) (β := Int) F69 (putK (putK w31 (DK.kk ((y19.a, y19.b).1, (y19.a, y19.b).2)) (V.int y19.c)) (DK.kk ((y19.b, y19.a).1, (y19.b, y19.a).2)) (V.int y19.c)) (dPut (dPut st30 ((y19.a, y19.b).1, (y19.a, y19.b).2) y19.c) ((y19.b, y19.a).1, (y19.b, y19.a).2) y19.c) := RD.put hl66 ((y19.b, y19.a).1, (y19.b, y19.a).2) R.int
      exact ⟨F69, (dPut (dPut st30 ((y19.a, y19.b).1, (y19.a, y19.b).2) y19.c) ((y19.b, y19.a).1, (y19.b, y19.a).2) y19.c), (putK (putK w31 (DK.kk ((y19.a, y19.b).1, (y19.a, y19.b).2)) (V.int y19.c)) (DK.kk ((y19.b, y19.a).1, (y19.b, y19.a).2)) (V.int y19.c)), some (V.int y19.a), some (V.int y19.b), some (V.int y19.c), rfl, S29, O83, hl84, hk⟩
    rintro sg85 H86 ⟨F95, st88, w90, t92, t93, t94, rfl, S87, O96, hl91, hL89⟩
    rw [drop_end hl18.len] at hL89
    have hk := hLd23 _ hL89
    have f_tree := f_tree.mono S87
    have h9 := S87 _ _ h9
    have r12 := r12.mono S87
    have r13 := r13.mono S87
    have h17 := S87 _ _ h17
    have hl18 := hl18.mono S87
    obtain ⟨F97, O98, S99, h100⟩ := O96.frzE 0 rfl z6
    have f_tree := f_tree.mono S99
    have h9 := S99 _ _ h9
    have r12 := r12.mono S99
    have r13 := r13.mono S99
    have h17 := S99 _ _ h17
    have hl18 := hl18.mono S99
    have hl91 := hl91.mono S99
    have h101 := RDv.mk (κ := (Int × Int)) (β := Int) h100 hl91
    refine ⟨_, rfl, ?_⟩
    exact hk _ _  O98.g  _ h101
abbrev s_tied_to : Stmt := top 26
theorem sc_tied_to : FnScope ["tree", "place"] ["tree", "place"] (defScope s_tied_to) := ⟨rfl, rfl, rfl, by decide +kernel, rfl, by decide +kernel, by decide +kernel⟩
def m_tied_to (x_tree : List Int × List (T3 Int Int Int)) (x_place : Int) : M (List Int) :=
  m_need_place x_tree x_place >>= fun _ =>
  m_tied_places (x_tree.1.length : Int) x_tree.2 >>= fun r =>
  opt (atI r x_place) >>= fun y =>
  .ok y
def sp_tied_to (mg : Str → Option Value) : Sp := fun vs H Q E => ∃ (F : Hp) (v_tree : V) (x_tree : List Int × List (T3 Int Int Int)) (x_place : Int), vs = [v_tree, .int x_place] ∧ Pre F [] H ∧ R (a := List Int × List (T3 Int Int Int)) F v_tree x_tree ∧
  wp (m_tied_to x_tree x_place) (fun r => ∀ (F' H' : Hp), Gr [] F H F' H' → ∀ (p : Addr) (w : List V), H p = none → F' p = none → H' p = some (.lst w) → RL (a := Int) F' w r → Q (.ref p) H')
  (fun n => ∀ (C : Addr) (H' : Hp), mg (Str.ofString n) = some (.ref C) → Kp [] H H' → E (.ref C) none H')
set_option maxHeartbeats 2000000 in
theorem ok_tied_to (nb : Nb mg) (C_need_place : Ca P w K mg base "need_place" 1 ["tree", "place"] (sp_need_place mg)) (C_tied_places : Ca P w K mg base "tied_places" 1 ["many", "ties"] (sp_tied_places_own mg))
    (D : Df K mg "tied_to" "tied_to" s_tied_to ["tree", "place"]) : Ca P w K mg base "tied_to" 2 ["tree", "place"] (sp_tied_to mg) := by
  obtain ⟨fa1, fd1, G1, M1, K1, B1⟩ := C_need_place.ex
  obtain ⟨fa2, fd2, G2, M2, K2, B2⟩ := C_tied_places.ex
  refine Ca.mk' D sc_tied_to (fun vs H Q E h => ?_) (fun q_ f_ cdv A outer s H vs Q E hr h => ?_)
  · obtain ⟨F, _, _, _, rfl, _⟩ := h
    rfl
  · obtain ⟨F, v_tree, x_tree, x_place, rfl, P0, f_tree, hk⟩ := h
    have nd := sc_tied_to.nd
    have O := P0.start
    have tk : ∀ (cls : Value) (d : Option Addr) (σ : L2.St) (H : Hp), E cls d H → E cls d H := fun _ _ _ _ h => h
    refine ⟨_, pss_cons (ps_expr (pe_call G1 (hr.mono (by decide)) rfl M1 K1 B1 .nil (passes_call (takes_of rfl rfl rfl rfl) fun _ _ _ _ h => h) (pa_cons (pv 0) (pa_cons (pv 1) pa_nil))))
      (pss_one (ps_ret (pe_ix ix_list (pe_call G2 (hr.mono (by decide)) rfl M2 K2 B2 .nil (passes_call (takes_of rfl rfl rfl rfl) fun _ _ _ _ h => h)
        (pa_cons (pe_callB call_lenT (by rfl) nb.b_len PySem.boot_len (pa_cons (pe_ix ix_tup (pv 0) pe_int (fun _ _ => rfl)) pa_nil)) (pa_cons (pe_ix ix_tup (pv 0) pe_int (fun _ _ => rfl)) pa_nil))) (pv 1) (fun _ _ => rfl)))), ?_⟩
    refine ⟨_, rfl, _, rfl, _, _, _, _, rfl, O.pre0, f_tree, wp_call hk (fun r1 er1 hk F1 H1 g1 => ?_) (fun n hn C H1 hC kp => hn C H1 hC (O.kp0 kp))⟩
    have O1 := O.call0 g1
    have f_tree := f_tree.mono g1.f
    obtain ⟨p2, v1, v2, e2, h2, r1', r2'⟩ := R.t2_ f_tree
    cases e2
    obtain ⟨p3, w3, e3, h3, hl3⟩ := R.lst_ r1'
    cases e3
    refine ⟨_, rfl, _, _, _, _, rfl, rfl, SqTF O1.s h2, rfl, _, _, _, rfl, .inl (O1.s _ _ h3), hl3.len, _, rfl, _, _, _, _, rfl, rfl, SqTF O1.s h2, rfl, _, _, _, _, rfl, O1.pre0, r2', wp_call hk (fun r er hk F4 H4 p4 ps g4 L el => ?_) (fun n hn C H1 hC kp => hn C H1 hC (O1.kp0 kp))⟩
    obtain ⟨y, ey, hk⟩ := wp_opt hk
    subst el
    unfold atI at ey
    cases ei : ixN (ps.map (·.2)).length x_place with
    | none => rw [ei] at ey; cases ey
    | some j =>
      rw [ei] at ey
      obtain ⟨c, hc, rfl⟩ := tp_at ey
      refine ⟨_, rfl, _, _, _, _, rfl, rfl, SqL.of L.ph, tp_ix ei hc, ?_⟩
      have hm := List.mem_of_getElem? hc
      have hz : H c.1 = none := O1.was (L.qn c hm)
      have O4 := O1.call0 g4
      exact hk _ _ O4.g _ _ hz (L.qf c hm) (L.qh c hm) RL.of_ints

abbrev s_way_between : Stmt := top 27
theorem sc_way_between : FnScope ["tree", "one", "other", "near", "lengths", "behind", "pile", "found", "length", "here", "place"] ["tree", "one", "other"] (defScope s_way_between) := ⟨rfl, rfl, rfl, by decide +kernel, rfl, by decide +kernel, by decide +kernel⟩
def m_way_between (x_tree : ((List Int) × (List (T3 Int Int Int)))) (x_one : Int) (x_other : Int) : M (((List Int) × Int)) :=
m_need_place x_tree x_one >>= fun r1 =>
m_need_place x_tree x_other >>= fun r7 =>
m_tied_places (x_tree.1.length : Int) x_tree.2 >>= fun r25 =>
m_lengths_of x_tree >>= fun r44 =>
whL (r := Unit) (fun (st76 : (List Int) × (List (Int × (Option Int)))) =>
if st76.1 ≠ ([] : List Int) then (
popL st76.1 >>= fun (y95, _) =>
opt (atI r25 y95) >>= fun y107 =>
loopN (fun (y117 : Int) (st128 : (List (Int × (Option Int))) × (List Int)) =>
if dHas st128.1 y117 = true then (
.ok (st128.1, st128.2))
else (
putD st128.1 y117 (some y95) >>= fun z143 =>
appL st128.2 y117 >>= fun _ =>
.ok (z143, (st128.2 ++ [y117])))) y107 (st76.2, st76.1.dropLast) >>= fun st153 =>
.ok (.go (st153.2, st153.1)))
else (
.ok (.stop (st76.1, st76.2)))) 1000000 ([x_other], (mergeD [(x_other, (none : (Option Int)))])) >>= fun f175 => match f175 with
| .rt _ => bad
| .nx st165 =>
whL (r := Unit) (fun (st192 : Int × (List Int)) =>
opt (atI st192.2 (-(1 : Int))) >>= fun y198 =>
if y198 ≠ x_other then (
opt (atI st192.2 (-(1 : Int))) >>= fun y204 =>
opt (atI st192.2 (-(1 : Int))) >>= fun y209 =>
opt (dGet st165.2 y209) >>= fun y214 =>
opt y214 >>= fun y219 =>
opt (dGet r44 (y204, y219)) >>= fun y234 =>
opt (atI st192.2 (-(1 : Int))) >>= fun y246 =>
opt (dGet st165.2 y246) >>= fun y251 =>
opt y251 >>= fun y256 =>
appL st192.2 y256 >>= fun _ =>
.ok (.go ((st192.1 + y234), (st192.2 ++ [y256]))))
else (
.ok (.stop (st192.1, st192.2)))) 1000000 ((0 : Int), [x_one]) >>= fun f272 => match f272 with
| .rt _ => bad
| .nx st266 =>
.ok (st266.2, st266.1)
def sp_way_between (mg : Str → Option Value) : Sp := fun vs H Q E => ∃ (F : Hp) (v_tree : V) (x_tree : ((List Int) × (List (T3 Int Int Int)))) (x_one : Int) (x_other : Int), vs = [v_tree, V.int x_one, V.int x_other] ∧ Pre F [] H ∧ R (a := ((List Int) × (List (T3 Int Int Int)))) F v_tree x_tree ∧
  wp (m_way_between x_tree x_one x_other) (fun r => ∀ (F' H' : Hp), Gr [] F H F' H' → ∀ (p : Addr) (q0 : Addr) (v0 : (List V)), H q0 = none → F' q0 = none → H' q0 = some (.lst v0) → RL (a := Int) F' v0 r.1 → F' p = some (.tup [.ref q0, V.int r.2]) → Q (.ref p) H')
  (fun n => ∀ (C : Addr) (H' : Hp), mg (Str.ofString n) = some (.ref C) → Kp [] H H' → E (.ref C) none H')
set_option maxHeartbeats 2000000 in
theorem ok_way_between (nb : Nb mg) (C_lengths_of : Ca P w K mg base "lengths_of" 1 ["tree"] (sp_lengths_of mg)) (C_need_place : Ca P w K mg base "need_place" 1 ["tree", "place"] (sp_need_place mg)) (C_tied_places : Ca P w K mg base "tied_places" 1 ["many", "ties"] (sp_tied_places mg)) (D : Df K mg "way_between" "way_between" s_way_between ["tree", "one", "other"]) : Ca P w K mg base "way_between" 2 ["tree", "one", "other"] (sp_way_between mg) := by
  obtain ⟨fa_lengths_of, fd_lengths_of, G_lengths_of, M_lengths_of, K_lengths_of, B_lengths_of⟩ := C_lengths_of.ex
  obtain ⟨fa_need_place, fd_need_place, G_need_place, M_need_place, K_need_place, B_need_place⟩ := C_need_place.ex
  obtain ⟨fa_tied_places, fd_tied_places, G_tied_places, M_tied_places, K_tied_places, B_tied_places⟩ := C_tied_places.ex
  refine Ca.mk' D sc_way_between (fun vs H Q E h => ?_) (fun q_ f_ cdv A outer s H vs Q E hr h => ?_)
  · obtain ⟨F, _, _, _, _, rfl, _⟩ := h
    rfl
  · obtain ⟨F, v_tree, x_tree, x_one, x_other, rfl, P0, f_tree, hk⟩ := h
    have nd := sc_way_between.nd
    have hu64 := hr.units
    have hu128 := hu128_of hr
    have O := P0.start
    refine ⟨_, (pss_cons (ps_expr (pe_call G_need_place (hr.mono (by decide)) rfl M_need_place K_need_place B_need_place .nil (passes_call (takes_of rfl rfl rfl rfl) fun _ _ _ _ h => h) (pa_cons (pv 0) (pa_cons (pv 1) pa_nil))))
  (pss_cons (ps_expr (pe_call G_need_place (hr.mono (by decide)) rfl M_need_place K_need_place B_need_place .nil (passes_call (takes_of rfl rfl rfl rfl) fun _ _ _ _ h => h) (pa_cons (pv 0) (pa_cons (pv 2) pa_nil))))
  (pss_cons (ps_set (i := 3) nd rfl (Or.inl rfl) (pe_call G_tied_places (hr.mono (by decide)) rfl M_tied_places K_tied_places B_tied_places .nil (passes_call (takes_of rfl rfl rfl rfl) fun _ _ _ _ h => h) (pa_cons (pe_callB call_lenT (by rfl) nb.b_len PySem.boot_len (pa_cons (pe_ix (ixTupK (K := K) rfl) (pv 0) pe_int (fun _ _ => rfl)) pa_nil)) (pa_cons (pe_ix (ixTupK (K := K) rfl) (pv 0) pe_int (fun _ _ => rfl)) pa_nil))))
  (pss_cons (ps_set (i := 4) nd rfl (Or.inl rfl) (pe_call G_lengths_of (hr.mono (by decide)) rfl M_lengths_of K_lengths_of B_lengths_of .nil (passes_call (takes_of rfl rfl rfl rfl) fun _ _ _ _ h => h) (pa_cons (pv 0) pa_nil)))
  (pss_cons (ps_set (i := 5) nd rfl (Or.inl rfl) (pe_disp (pps_cons (pv 2) pe_non pps_nil) rfl rfl (fun h => nomatch h) (by show 1 ≤ 15; decide)))
  (pss_cons (ps_set (i := 6) nd rfl (Or.inl rfl) (pe_lst (pa_cons (pv 2) pa_nil)))
  (pss_cons (ps_while (passes_of rfl) (pt_cmpR (op_neT (List Int) hu64) (pv 6) (pe_lst pa_nil) (nomark _)) (pss_cons (ps_set (i := 9) nd rfl (Or.inl rfl) (pe_bm0 PySem.F.plainAttrs_list PySem.F.slot_list_pop PySem.F.type_list_pop mt_pop (pv 6)))
  (pss_one (ps_for (passes_of rfl) rfl (pi_list (pe_ix (ixListK (K := K) rfl) (pv 3) (pv 9) (fun _ _ => rfl))) (pg_name (i := 10) nd rfl (Or.inl rfl)) (pss_one (ps_if (pt_cmp (pc_dnotin (u1_of hu64) (pv 10) (pv 5))) (pss_cons (ps_dput (u1_of hu64) (pv 5) (pv 10) (pv 9) rfl)
  (pss_one (ps_expr (pe_bm PySem.F.plainAttrs_list PySem.F.slot_list_append PySem.F.type_list_append mt_append (pv 6) (pa_cons (pv 10) pa_nil))))) pss_nil))))))
  (pss_cons (ps_set (i := 7) nd rfl (Or.inl rfl) (pe_lst (pa_cons (pv 1) pa_nil)))
  (pss_cons (ps_set (i := 8) nd rfl (Or.inl rfl) pe_int)
  (pss_cons (ps_while (passes_of rfl) (pt_cmpR (op_neT Int hu64) (pe_ix (ixListK (K := K) rfl) (pv 7) (pe_un un_neg pe_int) (fun _ _ => rfl)) (pv 2) (nomark _)) (pss_cons (ps_aug (i := 8) nd rfl (Or.inl rfl) (pe_dget (u1_of hu64) (pv 4) (pe_tup (pa_cons (pe_ix (ixListK (K := K) rfl) (pv 7) (pe_un un_neg pe_int) (fun _ _ => rfl)) (pa_cons (pe_dget (u1_of hu64) (pv 5) (pe_ix (ixListK (K := K) rfl) (pv 7) (pe_un un_neg pe_int) (fun _ _ => rfl)) (fun _ _ => rfl)) pa_nil))) (fun _ _ => rfl)) ip_add)
  (pss_one (ps_expr (pe_bm PySem.F.plainAttrs_list PySem.F.slot_list_append PySem.F.type_list_append mt_append (pv 7) (pa_cons (pe_dget (u1_of hu64) (pv 5) (pe_ix (ixListK (K := K) rfl) (pv 7) (pe_un un_neg pe_int) (fun _ _ => rfl)) (fun _ _ => rfl)) pa_nil))))))
  (pss_one (ps_ret (pe_tup (pa_cons (pv 7) (pa_cons (pv 8) pa_nil))))))))))))))), ?_⟩
    refine ⟨_, rfl, _, rfl, _, _, _, _, rfl, O.pre0, f_tree, wp_call hk (fun r1 er2 hk F3 H4 g5 => ?_) (fun n hn C H1 hC kp => hn C H1 hC (O.kp0 kp))⟩
    have O6 := O.call0 g5
    have S_ := g5.f
    have f_tree := f_tree.mono S_
    refine ⟨_, rfl, _, rfl, _, _, _, _, rfl, O6.pre0, f_tree, wp_call hk (fun r7 er8 hk F9 H10 g11 => ?_) (fun n hn C H1 hC kp => hn C H1 hC (O6.kp0 kp))⟩
    have O12 := O6.call0 g11
    have S_ := g11.f
    have f_tree := f_tree.mono S_
    obtain ⟨p13, v16, v17, e14, h15, r18, r19⟩ := R.t2_ f_tree
    cases e14
    obtain ⟨p20, w21, e22, h23, hl24⟩ := R.lst_ r18
    cases e22
    refine ⟨_, rfl, _, _, _, _, rfl, rfl, (SqTF O12.s h15), rfl, _, _, _, rfl, (.inl (O12.s _ _ h23)), hl24.len, _, rfl, _, _, _, _, rfl, rfl, (SqTF O12.s h15), rfl, _, _, _, _, rfl, O12.pre0, r19, wp_call hk (fun r25 er26 hk F27 H28 g29 p30 w31 hn32 hf33 h34 hl35 => ?_) (fun n hn C H1 hC kp => hn C H1 hC (O12.kp0 kp))⟩
    have O36 := O12.call0 g29
    have S_ := g29.f
    have f_tree := f_tree.mono S_
    have h15 := S_ _ _ h15
    have r18 := r18.mono S_
    have r19 := r19.mono S_
    have h23 := S_ _ _ h23
    have hl24 := hl24.mono S_
    have O37 := O12.got O36 rfl hn32 hf33 h34
    have z38 := O12.was hn32
    obtain ⟨F39, O40, S41, h42⟩ := O37.frzE 0 rfl z38
    have f_tree := f_tree.mono S41
    have h15 := S41 _ _ h15
    have r18 := r18.mono S41
    have r19 := r19.mono S41
    have h23 := S41 _ _ h23
    have hl24 := hl24.mono S41
    have hl35 := hl35.mono S41
    have h43 := R.lst (a := (List Int)) h42 hl35
    refine ⟨_, rfl, _, _, _, rfl, O40.pre0, f_tree, wp_call hk (fun r44 er45 hk F46 H47 g48 v49 r50 => ?_) (fun n hn C H1 hC kp => hn C H1 hC (O40.kp0 kp))⟩
    have O51 := O40.call0 g48
    have S_ := g48.f
    have f_tree := f_tree.mono S_
    have h15 := S_ _ _ h15
    have r18 := r18.mono S_
    have r19 := r19.mono S_
    have h23 := S_ _ _ h23
    have hl24 := hl24.mono S_
    have h43 := h43.mono S_
    refine fun p53 hp54 => ?_
    have hl56 : RD (κ := Int) (β := (Option Int)) F46 [] ([] : (List (Int × (Option Int)))) := RD.nil
    have z57 := O51.was hp54
    have O55 := O51.new (o := .dK []) hp54
    refine ⟨_, rfl, (O55.at 0 rfl), [(DK.kk x_other, V.non)], rfl, (by show 1 ≤ 15; decide), ?_⟩
    have O58 := O55.set 0 (.dK (mergeK [] [(DK.kk x_other, V.non)])) rfl
    have hl59 : RD (κ := Int) (β := (Option Int)) F46 (mergeK [] [(DK.kk x_other, V.non)]) (mergeD [(x_other, (none : (Option Int)))]) := merge_rd (.cons (k := x_other) R.non .nil) .nil
    refine ⟨_, rfl, (by show 1 ≤ sizeLine; decide), fun p61 hp62 => ?_⟩
    have hl64 : RL (a := Int) F46 ([V.int x_other]) ([x_other]) := RL.cons R.int RL.nil
    have z65 := O58.was hp62
    have O63 := O58.new (o := .lst ([V.int x_other])) hp62
    obtain ⟨L66, X67, hL68, hLs69, hLd70⟩ := whL_L hk
    refine while_P (fun n σ H_ => ∃ (F_ : Hp) (st : (List Int) × (List (Int × (Option Int)))) (w_0 : (List V)) (w_1 : (List (Key × V))) (t_0 : Option V) (t_1 : Option V), σ = [some (V.ref p13), some (V.int x_one), some (V.int x_other), some (V.ref p30), some v49, some (V.ref p53), some (V.ref p61), none, none, t_0, t_1] ∧ Same F46 F_ ∧ Ow (⟨[], F, H⟩ : Ent) F_ [(p61, .lst w_0), (p53, .dK w_1)] H_ ∧ RL (a := Int) F_ w_0 st.1 ∧ RD (κ := Int) (β := (Option Int)) F_ w_1 st.2 ∧ L66 n st) (fun σ H_ => ∃ (F_ : Hp) (st : (List Int) × (List (Int × (Option Int)))) (w_0 : (List V)) (w_1 : (List (Key × V))) (t_0 : Option V) (t_1 : Option V), σ = [some (V.ref p13), some (V.int x_one), some (V.int x_other), some (V.ref p30), some v49, some (V.ref p53), some (V.ref p61), none, none, t_0, t_1] ∧ Same F46 F_ ∧ Ow (⟨[], F, H⟩ : Ent) F_ [(p61, .lst w_0), (p53, .dK w_1)] H_ ∧ RL (a := Int) F_ w_0 st.1 ∧ RD (κ := Int) (β := (Option Int)) F_ w_1 st.2 ∧ X67 st) 1000000 ⟨F46, ([x_other], (mergeD [(x_other, (none : (Option Int)))])), [V.int x_other], (mergeK [] [(DK.kk x_other, V.non)]), none, none, rfl, Same.refl _, O63, hl64, hl59, hL68⟩ ?_ ?_
    rotate_left
    · rintro hex71 m72 sg73 H74 ⟨F84, st76, w78, w79, t82, t83, rfl, S75, O85, hl80, hl81, hL77⟩
      have f_tree := f_tree.mono S75
      have h15 := S75 _ _ h15
      have r18 := r18.mono S75
      have r19 := r19.mono S75
      have h23 := S75 _ _ h23
      have hl24 := hl24.mono S75
      have h43 := h43.mono S75
      have r50 := r50.mono S75
      have hk := hLs69 _ _ hL77
      refine ⟨_, rfl, (by show 0 ≤ sizeLine; decide), fun p86 hp87 => ?_⟩
      have hl93 : RL (a := Int) F84 ([]) ([] : List Int) := RL.nil
      obtain ⟨F88, O89, S90, h91⟩ := O85.putE hp87 (.lst ([]))
      have f_tree := f_tree.mono S90
      have h15 := S90 _ _ h15
      have r18 := r18.mono S90
      have r19 := r19.mono S90
      have h23 := S90 _ _ h23
      have hl24 := hl24.mono S90
      have h43 := h43.mono S90
      have r50 := r50.mono S90
      have hl80 := hl80.mono S90
      have hl81 := hl81.mono S90
      have S75 := S75.trans S90
      have hl93 := hl93.mono S90
      have h92 := R.lst (a := Int) h91 hl93
      refine ⟨_, _, (R.lst (a := Int) (O89.at 0 rfl) (hl80.mono O89.s)), (R.mono h92 O89.s), _, rfl, ?_⟩
      refine iteD (fun q94 => ?_) (fun q94 => ?_)
      · have hk := wp_if hk q94
        obtain ⟨y95, e96, hk⟩ := wp_popL hk
        obtain ⟨w97, e98, r99⟩ := RL.last hl80 e96
        refine ⟨_, (fun _ _ h_ => h_), _, rfl, (.inl ⟨rfl, _, SqL.of (O89.at 0 rfl)⟩), _, _, _, rfl, rfl, (O89.at 0 rfl), e98, ?_⟩
        obtain rfl := R.int_ r99
        have O100 := O89.set 0 (.lst (w78.dropLast)) rfl
        have hl101 : RL (a := Int) F88 (w78.dropLast) st76.1.dropLast := RL.dropLast hl80
        obtain ⟨p102, w103, e104, h105, hl106⟩ := R.lst_ h43
        cases e104
        obtain ⟨y107, e108, hk⟩ := wp_opt hk
        obtain ⟨w109, e110, r111⟩ := hl106.atI e108
        obtain ⟨p112, w113, e114, h115, hl116⟩ := R.lst_ r111
        cases e114
        obtain ⟨L118, hL119, hLs120, hLd121⟩ := loopN_L hk
        refine ⟨_, rfl, _, rfl, _, _, _, _, rfl, rfl, (SqLF O100.s h105), e110, _, rfl, ⟨_, (SqLF O100.s h115)⟩, ?_⟩
        refine for_list (K := K) (xs := w113) (fun i σ H => ∃ (F_ : Hp) (st : (List (Int × (Option Int))) × (List Int)) (w_0 : (List (Key × V))) (w_1 : (List V)) (t_0 : Option V), σ = [some (V.ref p13), some (V.int x_one), some (V.int x_other), some (V.ref p30), some v49, some (V.ref p53), some (V.ref p61), none, none, some (V.int y95), t_0] ∧ Same F88 F_ ∧ Ow _ F_ [(p61, .lst w_1), (p53, .dK w_0)] H ∧ RD (κ := Int) (β := (Option Int)) F_ w_0 st.1 ∧ RL (a := Int) F_ w_1 st.2 ∧ L118 (List.drop i y107) st) ⟨F88, (st76.2, st76.1.dropLast), w79, (w78.dropLast), t83, rfl, Same.refl _, O100, hl81, hl101, hL119⟩ (fun i_ σ_ H_ _ hp_ => ?_) ?_ ?_
        · obtain ⟨_, _, _, _, _, _, hS_, hO_, _⟩ := hp_
          exact SqLF hO_.s (hS_ _ _ h115)
        · rintro i122 x123 sg124 H125 hi126 ⟨F134, st128, w129, w130, t133, rfl, S127, O135, hl131, hl132, hL119⟩
          have f_tree := f_tree.mono S127
          have h15 := S127 _ _ h15
          have r18 := r18.mono S127
          have r19 := r19.mono S127
          have h23 := S127 _ _ h23
          have hl24 := hl24.mono S127
          have h43 := h43.mono S127
          have r50 := r50.mono S127
          have S75 := S75.trans S127
          have h92 := h92.mono S127
          have h105 := S127 _ _ h105
          have hl106 := hl106.mono S127
          have r111 := r111.mono S127
          have h115 := S127 _ _ h115
          have hl116 := hl116.mono S127
          obtain ⟨y117, e136, r137⟩ := RL.got hl116 hi126
          rw [drop_at e136] at hL119
          have hk := hLs120 _ _ _ hL119
          obtain rfl := R.int_ r137
          obtain ⟨o138, hg139, ho140⟩ := din_I (O135.at 1 rfl) hl131
          refine ⟨_, rfl, _, rfl, _, _, rfl, hg139, ?_⟩
          rw [ho140]
          refine ⟨_, rfl, ?_⟩
          refine iteBN (fun q141 => ?_) (fun q141 => ?_)
          · have hk := wp_if hk q141
            exact ⟨F134, (st128.1, st128.2), w129, w130, some (V.int y117), rfl, S127, O135, hl131, hl132, hk⟩
          · have hk := wp_el hk q141
            obtain ⟨c142, hk⟩ := wp_putD hk
            refine ⟨_, rfl, _, rfl, _, rfl, _, _, rfl, (dput_I (v := (V.int y95)) (O135.at 1 rfl) (by rw [RD.len hl131]; exact c142)), ?_⟩
            have O144 := O135.set 1 (.dK (putK w129 (DK.kk y117) (V.int y95))) rfl
            have hl145 : RD (κ := Int) (β := (Option Int)) F134 (putK w129 (DK.kk y117) (V.int y95)) (dPut st128.1 y117 (some y95)) := RD.put hl131 y117 (R.jst R.int)
            obtain ⟨c146, hk⟩ := wp_appL hk
            refine ⟨_, rfl, (.inl ⟨rfl, _, SqL.of (O144.at 0 rfl)⟩), _, rfl, _, _, _, rfl, rfl, (O144.at 0 rfl), (by rw [hl132.len]; exact c146), ?_⟩
            have O148 := O144.set 0 (.lst (w130 ++ [V.int y117])) rfl
            have hl149 : RL (a := Int) F134 (w130 ++ [V.int y117]) (st128.2 ++ [y117]) := RL.snoc hl132 R.int
            exact ⟨F134, ((dPut st128.1 y117 (some y95)), (st128.2 ++ [y117])), (putK w129 (DK.kk y117) (V.int y95)), (w130 ++ [V.int y117]), some (V.int y117), rfl, S127, O148, hl145, hl149, hk⟩
        rintro sg150 H151 ⟨F160, st153, w155, w156, t159, rfl, S152, O161, hl157, hl158, hL154⟩
        rw [drop_end hl116.len] at hL154
        have hk := hLd121 _ hL154
        have f_tree := f_tree.mono S152
        have h15 := S152 _ _ h15
        have r18 := r18.mono S152
        have r19 := r19.mono S152
        have h23 := S152 _ _ h23
        have hl24 := hl24.mono S152
        have h43 := h43.mono S152
        have r50 := r50.mono S152
        have S75 := S75.trans S152
        have h92 := h92.mono S152
        have h105 := S152 _ _ h105
        have hl106 := hl106.mono S152
        have r111 := r111.mono S152
        have h115 := S152 _ _ h115
        have hl116 := hl116.mono S152
        obtain ⟨m_, hm_, hk⟩ := hk
        exact ⟨m_, hm_, F160, (st153.2, st153.1), w156, w155, some (V.int y95), t159, rfl, S75, O161, hl158, hl157, hk⟩
      · have hk := wp_el hk q94
        exact hex71 _ _ ⟨F88, (st76.1, st76.2), w78, w79, t82, t83, rfl, S75, O89, hl80, hl81, hk⟩
    rintro sg162 H163 ⟨F173, st165, w167, w168, t171, t172, rfl, S164, O174, hl169, hl170, hL166⟩
    have hk := hLd70 _ hL166
    have f_tree := f_tree.mono S164
    have h15 := S164 _ _ h15
    have r18 := r18.mono S164
    have r19 := r19.mono S164
    have h23 := S164 _ _ h23
    have hl24 := hl24.mono S164
    have h43 := h43.mono S164
    have r50 := r50.mono S164
    refine ⟨_, rfl, (by show 1 ≤ sizeLine; decide), fun p177 hp178 => ?_⟩
    have hl180 : RL (a := Int) F173 ([V.int x_one]) ([x_one]) := RL.cons R.int RL.nil
    have z181 := O174.was hp178
    have O179 := O174.new (o := .lst ([V.int x_one])) hp178
    obtain ⟨L182, X183, hL184, hLs185, hLd186⟩ := whL_L hk
    refine while_P (fun n σ H_ => ∃ (F_ : Hp) (st : Int × (List Int)) (w_0 : (List V)), σ = [some (V.ref p13), some (V.int x_one), some (V.int x_other), some (V.ref p30), some v49, some (V.ref p53), some (V.ref p61), some (V.ref p177), some (V.int st.1), t171, t172] ∧ Same F173 F_ ∧ Ow (⟨[], F, H⟩ : Ent) F_ [(p177, .lst w_0), (p61, .lst w167), (p53, .dK w168)] H_ ∧ RL (a := Int) F_ w_0 st.2 ∧ L182 n st) (fun σ H_ => ∃ (F_ : Hp) (st : Int × (List Int)) (w_0 : (List V)), σ = [some (V.ref p13), some (V.int x_one), some (V.int x_other), some (V.ref p30), some v49, some (V.ref p53), some (V.ref p61), some (V.ref p177), some (V.int st.1), t171, t172] ∧ Same F173 F_ ∧ Ow (⟨[], F, H⟩ : Ent) F_ [(p177, .lst w_0), (p61, .lst w167), (p53, .dK w168)] H_ ∧ RL (a := Int) F_ w_0 st.2 ∧ X183 st) 1000000 ⟨F173, ((0 : Int), [x_one]), [V.int x_one], rfl, Same.refl _, O179, hl180, hL184⟩ ?_ ?_
    rotate_left
    · rintro hex187 m188 sg189 H190 ⟨F196, st192, w194, rfl, S191, O197, hl195, hL193⟩
      have f_tree := f_tree.mono S191
      have h15 := S191 _ _ h15
      have r18 := r18.mono S191
      have r19 := r19.mono S191
      have h23 := S191 _ _ h23
      have hl24 := hl24.mono S191
      have h43 := h43.mono S191
      have r50 := r50.mono S191
      have hl169 := hl169.mono S191
      have hl170 := hl170.mono S191
      have hk := hLs185 _ _ hL193
      obtain ⟨y198, e199, hk⟩ := wp_opt hk
      obtain ⟨w200, e201, r202⟩ := hl195.atI e199
      obtain rfl := R.int_ r202
      refine ⟨_, rfl, _, rfl, _, _, _, _, rfl, rfl, (SqL.of (O197.at 0 rfl)), e201, _, rfl, _, _, R.int, R.int, _, rfl, ?_⟩
      refine iteD (fun q203 => ?_) (fun q203 => ?_)
      · have hk := wp_if hk q203
        obtain ⟨y204, e205, hk⟩ := wp_opt hk
        obtain ⟨w206, e207, r208⟩ := hl195.atI e205
        obtain rfl := R.int_ r208
        obtain ⟨y209, e210, hk⟩ := wp_opt hk
        obtain ⟨w211, e212, r213⟩ := hl195.atI e210
        obtain rfl := R.int_ r213
        obtain ⟨y214, e215, hk⟩ := wp_opt hk
        obtain ⟨w216, e217, r218⟩ := RD.some hl170 (k := y209) e215
        obtain ⟨y219, e220, hk⟩ := wp_opt hk
        have r221 : R (a := Int) F196 w216 y219 := R.jst_ (by rw [← e220]; exact r218)
        obtain rfl := R.int_ r221
        refine ⟨_, (fun _ _ h_ => h_), _, rfl, _, rfl, _, rfl, _, rfl, _, _, _, _, rfl, rfl, (SqL.of (O197.at 0 rfl)), e207, _, rfl, _, rfl, _, rfl, _, _, _, _, rfl, rfl, (SqL.of (O197.at 0 rfl)), e212, _, _, rfl, (dget_I (O197.at 2 rfl) e217), (by show 2 ≤ sizeLine; decide), fun p222 hp223 => ?_⟩
        obtain ⟨F224, O225, S226, h227⟩ := O197.putE hp223 (.tup [V.int y204, V.int y219])
        have f_tree := f_tree.mono S226
        have h15 := S226 _ _ h15
        have r18 := r18.mono S226
        have r19 := r19.mono S226
        have h23 := S226 _ _ h23
        have hl24 := hl24.mono S226
        have h43 := h43.mono S226
        have r50 := r50.mono S226
        have hl169 := hl169.mono S226
        have hl170 := hl170.mono S226
        have hl195 := hl195.mono S226
        have S191 := S191.trans S226
        have r218 := r218.mono S226
        have h228 : R (a := (Int × Int)) F224 (.ref p222) (y204, y219) := R.t2 h227 R.int R.int
        obtain ⟨p229, w230, e231, h232, hl233⟩ := r50
        cases e231
        have h232 : F224 _ = some (.dT w230) := h232
        have r50 := RDv.mk (κ := (Int × Int)) (β := Int) h232 hl233
        obtain ⟨p239, v242, v243, e240, h241, r244, r245⟩ := R.t2_ h228
        cases e240
        obtain rfl := R.int_ r244
        obtain rfl := R.int_ r245
        obtain ⟨y234, e235, hk⟩ := wp_opt hk
        obtain ⟨w236, e237, r238⟩ := RD.some hl233 (k := ((y204, y219).1, (y204, y219).2)) e235
        obtain rfl := R.int_ r238
        obtain ⟨y246, e247, hk⟩ := wp_opt hk
        obtain ⟨w248, e249, r250⟩ := hl195.atI e247
        obtain rfl := R.int_ r250
        obtain ⟨y251, e252, hk⟩ := wp_opt hk
        obtain ⟨w253, e254, r255⟩ := RD.some hl170 (k := y246) e252
        obtain ⟨y256, e257, hk⟩ := wp_opt hk
        have r258 : R (a := Int) F224 w253 y256 := R.jst_ (by rw [← e257]; exact r255)
        obtain rfl := R.int_ r258
        obtain ⟨c259, hk⟩ := wp_appL hk
        refine ⟨_, _, rfl, (dget_T (O225.s _ _ h232) (O225.s _ _ h241) e237), _, _, rfl, rfl, _, rfl, (.inl ⟨rfl, _, SqL.of (O225.at 0 rfl)⟩), _, rfl, _, rfl, _, rfl, _, _, _, _, rfl, rfl, (SqL.of (O225.at 0 rfl)), e249, _, _, rfl, (dget_I (O225.at 2 rfl) e254), _, _, _, rfl, rfl, (O225.at 0 rfl), (by rw [hl195.len]; exact c259), ?_⟩
        have O261 := O225.set 0 (.lst (w194 ++ [V.int y256])) rfl
        have hl262 : RL (a := Int) F224 (w194 ++ [V.int y256]) (st192.2 ++ [y256]) := RL.snoc hl195 R.int
        obtain ⟨m_, hm_, hk⟩ := hk
        exact ⟨m_, hm_, F224, ((st192.1 + y234), (st192.2 ++ [y256])), (w194 ++ [V.int y256]), rfl, S191, O261, hl262, hk⟩
      · have hk := wp_el hk q203
        exact hex187 _ _ ⟨F196, (st192.1, st192.2), w194, rfl, S191, O197, hl195, hk⟩
    rintro sg263 H264 ⟨F270, st266, w268, rfl, S265, O271, hl269, hL267⟩
    have hk := hLd186 _ hL267
    have f_tree := f_tree.mono S265
    have h15 := S265 _ _ h15
    have r18 := r18.mono S265
    have r19 := r19.mono S265
    have h23 := S265 _ _ h23
    have hl24 := hl24.mono S265
    have h43 := h43.mono S265
    have r50 := r50.mono S265
    have hl169 := hl169.mono S265
    have hl170 := hl170.mono S265
    refine ⟨_, rfl, _, rfl, (by show 2 ≤ sizeLine; decide), fun p274 hp275 => ?_⟩
    obtain ⟨F276, O277, S278, h279⟩ := O271.putE hp275 (.tup [V.ref p177, V.int st266.1])
    have f_tree := f_tree.mono S278
    have h15 := S278 _ _ h15
    have r18 := r18.mono S278
    have r19 := r19.mono S278
    have h23 := S278 _ _ h23
    have hl24 := hl24.mono S278
    have h43 := h43.mono S278
    have r50 := r50.mono S278
    have hl169 := hl169.mono S278
    have hl170 := hl170.mono S278
    have hl269 := hl269.mono S278
    exact hk _ _  O277.g  _ _ _ z181 (O277.cf _ (List.mem_of_getElem? (i := 0) rfl)) (O277.at 0 rfl) hl269 h279
abbrev s_row_with : Stmt := top 29
theorem sc_row_with : FnScope ["tree", "rule", "place", "near", "own", "so", "more"] ["tree", "rule", "place", "near"] (defScope s_row_with) := ⟨rfl, rfl, rfl, by decide +kernel, rfl, by decide +kernel, by decide +kernel⟩
def m_row_with (x_tree : ((List Int) × (List (T3 Int Int Int)))) (x_rule : (T4 (List Sm) (List Sm) (List Sm) Sm)) (x_place : Int) (x_near : (List (List Int))) : M ((List Int)) :=
opt (atI x_tree.1 x_place) >>= fun y13 =>
m_begun x_rule y13 >>= fun r18 =>
loopN (fun (y42 : (List Int)) (st53 : (List Int)) =>
m_joined x_rule st53 y42 y13 >>= fun r61 =>
.ok r61) x_near r18 >>= fun st83 =>
.ok st83
def sp_row_with (mg : Str → Option Value) : Sp := fun vs H Q E => ∃ (F : Hp) (v_tree : V) (x_tree : ((List Int) × (List (T3 Int Int Int)))) (v_rule : V) (x_rule : (T4 (List Sm) (List Sm) (List Sm) Sm)) (x_place : Int) (v_near : V) (x_near : (List (List Int))), vs = [v_tree, v_rule, V.int x_place, v_near] ∧ Pre F [] H ∧ R (a := ((List Int) × (List (T3 Int Int Int)))) F v_tree x_tree ∧ R (a := (T4 (List Sm) (List Sm) (List Sm) Sm)) F v_rule x_rule ∧ R (a := (List (List Int))) F v_near x_near ∧
  wp (m_row_with x_tree x_rule x_place x_near) (fun r => ∀ (F' H' : Hp), Gr [] F H F' H' → ∀ v : V, R (a := (List Int)) F' v r → Q v H')
  (fun n => ∀ (C : Addr) (H' : Hp), mg (Str.ofString n) = some (.ref C) → Kp [] H H' → E (.ref C) none H')
set_option maxHeartbeats 2000000 in
theorem ok_row_with (nb : Nb mg) (C_begun : Ca P w K mg base "begun" 14 ["rule", "own"] (sp_begun mg)) (C_joined : Ca P w K mg base "joined" 14 ["rule", "so", "more", "own"] (sp_joined mg)) (D : Df K mg "row_with" "row_with" s_row_with ["tree", "rule", "place", "near"]) : Ca P w K mg base "row_with" 15 ["tree", "rule", "place", "near"] (sp_row_with mg) := by
  obtain ⟨fa_begun, fd_begun, G_begun, M_begun, K_begun, B_begun⟩ := C_begun.ex
  obtain ⟨fa_joined, fd_joined, G_joined, M_joined, K_joined, B_joined⟩ := C_joined.ex
  refine Ca.mk' D sc_row_with (fun vs H Q E h => ?_) (fun q_ f_ cdv A outer s H vs Q E hr h => ?_)
  · obtain ⟨F, _, _, _, _, _, _, _, rfl, _⟩ := h
    rfl
  · obtain ⟨F, v_tree, x_tree, v_rule, x_rule, x_place, v_near, x_near, rfl, P0, f_tree, f_rule, f_near, hk⟩ := h
    have nd := sc_row_with.nd
    have hu64 := hr.units
    have hu128 := hu128_of hr
    have O := P0.start
    refine ⟨_, (pss_cons (ps_set (i := 4) nd rfl (Or.inl rfl) (pe_ix (ixListK (K := K) rfl) (pe_ix (ixTupK (K := K) rfl) (pv 0) pe_int (fun _ _ => rfl)) (pv 2) (fun _ _ => rfl)))
  (pss_cons (ps_set (i := 5) nd rfl (Or.inl rfl) (pe_call G_begun (hr.mono (by decide)) rfl M_begun K_begun B_begun .nil (passes_call (takes_of rfl rfl rfl rfl) fun _ _ _ _ h => h) (pa_cons (pv 1) (pa_cons (pv 4) pa_nil))))
  (pss_cons (ps_for (passes_of rfl) rfl (pi_list (pv 3)) (pg_name (i := 6) nd rfl (Or.inl rfl)) (pss_one (ps_set (i := 5) nd rfl (Or.inl rfl) (pe_call G_joined (hr.mono (by decide)) rfl M_joined K_joined B_joined .nil (passes_call (takes_of rfl rfl rfl rfl) fun _ _ _ _ h => h) (pa_cons (pv 1) (pa_cons (pv 5) (pa_cons (pv 6) (pa_cons (pv 4) pa_nil))))))))
  (pss_one (ps_ret (pv 5)))))), ?_⟩
    obtain ⟨p1, v4, v5, e2, h3, r6, r7⟩ := R.t2_ f_tree
    cases e2
    obtain ⟨p8, w9, e10, h11, hl12⟩ := R.lst_ r6
    cases e10
    obtain ⟨y13, e14, hk⟩ := wp_opt hk
    obtain ⟨w15, e16, r17⟩ := hl12.atI e14
    obtain rfl := R.int_ r17
    refine ⟨_, rfl, _, _, _, _, rfl, rfl, (SqTF O.s h3), rfl, _, rfl, _, _, _, _, rfl, rfl, (SqLF O.s h11), e16, _, rfl, _, rfl, _, _, _, _, rfl, O.pre0, f_rule, wp_call hk (fun r18 er19 hk F20 H21 g22 p23 w24 hn25 hf26 h27 hl28 => ?_) (fun n hn C H1 hC kp => hn C H1 hC (O.kp0 kp))⟩
    have O29 := O.call0 g22
    have S_ := g22.f
    have f_tree := f_tree.mono S_
    have f_rule := f_rule.mono S_
    have f_near := f_near.mono S_
    have h3 := S_ _ _ h3
    have r6 := r6.mono S_
    have r7 := r7.mono S_
    have h11 := S_ _ _ h11
    have hl12 := hl12.mono S_
    have O30 := O.got O29 rfl hn25 hf26 h27
    have z31 := O.was hn25
    obtain ⟨F32, O33, S34, h35⟩ := O30.frzE 0 rfl z31
    have f_tree := f_tree.mono S34
    have f_rule := f_rule.mono S34
    have f_near := f_near.mono S34
    have h3 := S34 _ _ h3
    have r6 := r6.mono S34
    have r7 := r7.mono S34
    have h11 := S34 _ _ h11
    have hl12 := hl12.mono S34
    have hl28 := hl28.mono S34
    have h36 := R.lst (a := Int) h35 hl28
    obtain ⟨p37, w38, e39, h40, hl41⟩ := R.lst_ f_near
    cases e39
    obtain ⟨L43, hL44, hLs45, hLd46⟩ := loopN_L hk
    refine ⟨_, rfl, _, rfl, ⟨_, (SqLF O33.s h40)⟩, ?_⟩
    refine for_list (K := K) (xs := w38) (fun i σ H => ∃ (F_ : Hp) (st : (List Int)) (v_0 : V) (t_0 : Option V), σ = [some (V.ref p1), some v_rule, some (V.int x_place), some (V.ref p37), some (V.int y13), some v_0, t_0] ∧ Same F32 F_ ∧ Ow _ F_ [] H ∧ R (a := (List Int)) F_ v_0 st ∧ L43 (List.drop i x_near) st) ⟨F32, r18, V.ref p23, none, rfl, Same.refl _, O33, h36, hL44⟩ (fun i_ σ_ H_ _ hp_ => ?_) ?_ ?_
    · obtain ⟨_, _, _, _, _, hS_, hO_, _⟩ := hp_
      exact SqLF hO_.s (hS_ _ _ h40)
    · rintro i47 x48 sg49 H50 hi51 ⟨F57, st53, v54, t56, rfl, S52, O58, r55, hL44⟩
      have f_tree := f_tree.mono S52
      have f_rule := f_rule.mono S52
      have f_near := f_near.mono S52
      have h3 := S52 _ _ h3
      have r6 := r6.mono S52
      have r7 := r7.mono S52
      have h11 := S52 _ _ h11
      have hl12 := hl12.mono S52
      have h36 := h36.mono S52
      have h40 := S52 _ _ h40
      have hl41 := hl41.mono S52
      obtain ⟨y42, e59, r60⟩ := RL.got hl41 hi51
      rw [drop_at e59] at hL44
      have hk := hLs45 _ _ _ hL44
      refine ⟨_, rfl, _, rfl, _, rfl, _, rfl, _, _, _, _, _, _, _, _, rfl, O58.pre0, f_rule, r55, r60, wp_call hk (fun r61 er62 hk F63 H64 g65 p66 w67 hn68 hf69 h70 hl71 => ?_) (fun n hn C H1 hC kp => hn C H1 hC (O58.kp0 kp))⟩
      have O72 := O58.call0 g65
      have S_ := g65.f
      have f_tree := f_tree.mono S_
      have f_rule := f_rule.mono S_
      have f_near := f_near.mono S_
      have h3 := S_ _ _ h3
      have r6 := r6.mono S_
      have r7 := r7.mono S_
      have h11 := S_ _ _ h11
      have hl12 := hl12.mono S_
      have h36 := h36.mono S_
      have h40 := S_ _ _ h40
      have hl41 := hl41.mono S_
      have r55 := r55.mono S_
      have S52 := S52.trans S_
      have r60 := r60.mono S_
      have O73 := O58.got O72 rfl hn68 hf69 h70
      have z74 := O58.was hn68
      obtain ⟨F75, O76, S77, h78⟩ := O73.frzE 0 rfl z74
      have f_tree := f_tree.mono S77
      have f_rule := f_rule.mono S77
      have f_near := f_near.mono S77
      have h3 := S77 _ _ h3
      have r6 := r6.mono S77
      have r7 := r7.mono S77
      have h11 := S77 _ _ h11
      have hl12 := hl12.mono S77
      have h36 := h36.mono S77
      have h40 := S77 _ _ h40
      have hl41 := hl41.mono S77
      have r55 := r55.mono S77
      have S52 := S52.trans S77
      have r60 := r60.mono S77
      have hl71 := hl71.mono S77
      have h79 := R.lst (a := Int) h78 hl71
      exact ⟨F75, r61, V.ref p66, some x48, rfl, S52, O76, h79, hk⟩
    rintro sg80 H81 ⟨F88, st83, v85, t87, rfl, S82, O89, r86, hL84⟩
    rw [drop_end hl41.len] at hL84
    have hk := hLd46 _ hL84
    have f_tree := f_tree.mono S82
    have f_rule := f_rule.mono S82
    have f_near := f_near.mono S82
    have h3 := S82 _ _ h3
    have r6 := r6.mono S82
    have r7 := r7.mono S82
    have h11 := S82 _ _ h11
    have hl12 := hl12.mono S82
    have h36 := h36.mono S82
    have h40 := S82 _ _ h40
    have hl41 := hl41.mono S82
    refine ⟨_, rfl, ?_⟩
    exact hk _ _  O89.g  _ r86
abbrev s_row_down : Stmt := top 30
theorem sc_row_down : FnScope ["tree", "rule", "near", "lengths", "branch", "rows", "a", "b", "c"] ["tree", "rule", "near", "lengths", "branch"] (defScope s_row_down) := ⟨rfl, rfl, rfl, by decide +kernel, rfl, by decide +kernel, by decide +kernel⟩
def m_row_down : Nat → ((List Int) × (List (T3 Int Int Int))) → (T4 (List Sm) (List Sm) (List Sm) Sm) → (List (List Int)) → (List ((Int × Int) × Int)) → (Int × Int) → M ((List Int))
  | 0, _, _, _, _, _ => bad
  | k_ + 1, x_tree, x_rule, x_near, x_lengths, x_branch =>
    opt (atI x_near x_branch.2) >>= fun y13 =>
    compS (fun (y23 : Int) (st40 : Unit) =>
    if y23 ≠ x_branch.1 then (
    m_row_down k_ x_tree x_rule x_near x_lengths (x_branch.2, y23) >>= fun r54 =>
    .ok (some r54, ()))
    else (
    .ok (none, ()))) y13 () >>= fun q84 =>
    m_row_with x_tree x_rule x_branch.2 q84.1 >>= fun r91 =>
    opt (atI x_tree.1 x_branch.2) >>= fun y111 =>
    opt (dGet x_lengths x_branch) >>= fun y121 =>
    m_over_tie x_rule r91 y111 y121 >>= fun r126 =>
    .ok r126
def sp_row_down (k_ : Nat) (mg : Str → Option Value) : Sp := fun vs H Q E => ∃ (F : Hp) (v_tree : V) (x_tree : ((List Int) × (List (T3 Int Int Int)))) (v_rule : V) (x_rule : (T4 (List Sm) (List Sm) (List Sm) Sm)) (v_near : V) (x_near : (List (List Int))) (v_lengths : V) (x_lengths : (List ((Int × Int) × Int))) (v_branch : V) (x_branch : (Int × Int)), vs = [v_tree, v_rule, v_near, v_lengths, v_branch] ∧ Pre F [] H ∧ R (a := ((List Int) × (List (T3 Int Int Int)))) F v_tree x_tree ∧ R (a := (T4 (List Sm) (List Sm) (List Sm) Sm)) F v_rule x_rule ∧ R (a := (List (List Int))) F v_near x_near ∧ RDv (κ := (Int × Int)) (β := Int) F v_lengths x_lengths ∧ R (a := (Int × Int)) F v_branch x_branch ∧
  wp (m_row_down k_ x_tree x_rule x_near x_lengths x_branch) (fun r => ∀ (F' H' : Hp), Gr [] F H F' H' → ∀ (p : Addr) (w : (List V)), H p = none → F' p = none → H' p = some (.lst w) → RL (a := Int) F' w r → Q (.ref p) H')
  (fun n => ∀ (C : Addr) (H' : Hp), mg (Str.ofString n) = some (.ref C) → Kp [] H H' → E (.ref C) none H')
set_option maxHeartbeats 2000000 in
theorem ok_row_down (nb : Nb mg) (C_over_tie : Ca P w K mg base "over_tie" 14 ["rule", "more", "own", "tie"] (sp_over_tie mg)) (C_row_with : Ca P w K mg base "row_with" 15 ["tree", "rule", "place", "near"] (sp_row_with mg)) (D : Df K mg "row_down" "row_down" s_row_down ["tree", "rule", "near", "lengths", "branch"]) : ∀ k_ : Nat, Ca P w K mg base "row_down" (k_ + 16) ["tree", "rule", "near", "lengths", "branch"] (sp_row_down k_ mg) := by
  intro k_
  induction k_ with
  | zero =>
    refine Ca.mk' D sc_row_down (fun vs H Q E h => ?_) (fun q_ f_ cdv A outer s H vs Q E hr h => ?_)
    · obtain ⟨F, _, _, _, _, _, _, _, _, _, _, rfl, _⟩ := h
      rfl
    · obtain ⟨F, _, _, _, _, _, _, _, _, _, _, rfl, _, _, _, _, _, _, hk⟩ := h
      exact hk.elim
  | succ k_ ih_ =>
    have C_row_down := ih_
    obtain ⟨fa_over_tie, fd_over_tie, G_over_tie, M_over_tie, K_over_tie, B_over_tie⟩ := C_over_tie.ex
    obtain ⟨fa_row_with, fd_row_with, G_row_with, M_row_with, K_row_with, B_row_with⟩ := C_row_with.ex
    obtain ⟨fa_row_down, fd_row_down, G_row_down, M_row_down, K_row_down, B_row_down⟩ := C_row_down.ex
    refine Ca.mk' D sc_row_down (fun vs H Q E h => ?_) (fun q_ f_ cdv A outer s H vs Q E hr h => ?_)
    · obtain ⟨F, _, _, _, _, _, _, _, _, _, _, rfl, _⟩ := h
      rfl
    · obtain ⟨F, v_tree, x_tree, v_rule, x_rule, v_near, x_near, v_lengths, x_lengths, v_branch, x_branch, rfl, P0, f_tree, f_rule, f_near, f_lengths, f_branch, hk⟩ := h
      have nd := sc_row_down.nd
      have hu64 := hr.units
      have hu128 := hu128_of hr
      have O := P0.start
      refine ⟨_, (pss_cons (ps_asg (pv 4) (pg_tup rfl (pgs_cons (pg_name (i := 6) nd rfl (Or.inr rfl)) (pgs_cons (pg_name (i := 7) nd rfl (Or.inr rfl)) pgs_nil))))
  (pss_cons (ps_setLc (i := 5) (own := [("c", 8)]) (g := gName 8) (tt := _) rfl nd rfl rfl (sw_true rfl rfl rfl (by decide +kernel)) (pi_list (pe_ix (ixListK (K := K) rfl) (pv 2) (pv 7) (fun _ _ => rfl))) (blkOk_by (own := [("c", 8)]) (N := ["tree", "rule", "near", "lengths", "branch", "rows", "a", "b", "c"]) (sc := defScope s_row_down) (by decide +kernel)) (fun _ _ _ _ _ => (pg_name (i := 8) nd rfl (Or.inl rfl))) (fun _ _ _ _ _ => (pts_one (pt_cmpR (op_neT Int hu64) (pv 8) (pv 6) (nomark _)))) (fun _ _ _ _ _ => (pe_call G_row_down (hr.mono (by omega)) rfl M_row_down K_row_down B_row_down .nil passL (pa_cons (pv 0) (pa_cons (pv 1) (pa_cons (pv 2) (pa_cons (pv 3) (pa_cons (pe_tup (pa_cons (pv 7) (pa_cons (pv 8) pa_nil))) pa_nil))))))))
  (pss_one (ps_ret (pe_call G_over_tie (hr.mono (by omega)) rfl M_over_tie K_over_tie B_over_tie .nil (passes_call (takes_of rfl rfl rfl rfl) fun _ _ _ _ h => h) (pa_cons (pv 1) (pa_cons (pe_call G_row_with (hr.mono (by omega)) rfl M_row_with K_row_with B_row_with .nil (passes_call (takes_of rfl rfl rfl rfl) fun _ _ _ _ h => h) (pa_cons (pv 0) (pa_cons (pv 1) (pa_cons (pv 7) (pa_cons (pv 5) pa_nil))))) (pa_cons (pe_ix (ixListK (K := K) rfl) (pe_ix (ixTupK (K := K) rfl) (pv 0) pe_int (fun _ _ => rfl)) (pv 7) (fun _ _ => rfl)) (pa_cons (pe_dget (u1_of hu64) (pv 3) (pv 4) (fun _ _ => rfl)) pa_nil))))))))), ?_⟩
      obtain ⟨p1, v4, v5, e2, h3, r6, r7⟩ := R.t2_ f_branch
      cases e2
      obtain rfl := R.int_ r6
      obtain rfl := R.int_ r7
      obtain ⟨p8, w9, e10, h11, hl12⟩ := R.lst_ f_near
      cases e10
      obtain ⟨y13, e14, hk⟩ := wp_opt hk
      obtain ⟨w15, e16, r17⟩ := hl12.atI e14
      obtain ⟨p18, w19, e20, h21, hl22⟩ := R.lst_ r17
      cases e20
      obtain ⟨c28, L24, hL25, hLs26, hLd27⟩ := compS_L hk
      refine ⟨_, rfl, _, _, rfl, (SqTF O.s h3), rfl, _, _, rfl, _, _, rfl, rfl, _, rfl, _, rfl, _, _, _, _, rfl, rfl, (SqLF O.s h11), e16, _, rfl, ⟨_, (SqLF O.s h21)⟩, fun p29 hp30 => ?_⟩
      have z73 := O.was hp30
      refine lc_list (K := K) (xs := w19) (fun i H => ∃ (F_ : Hp) (st : Unit) (acc : List (List Int)) (wa : List V), Same F F_ ∧ Ow _ F_ [(p29, .lst wa)] H ∧ RL F_ wa acc ∧ wa.length ≤ i ∧ L24 (List.drop i y13) acc st) ⟨F, (), [], [], Same.refl _, O.new hp30, RL.nil, Nat.zero_le _, hL25⟩ (fun i_ H_ _ hp_ => ?_) ?_ ?_
      · obtain ⟨_, _, _, _, hS_, hO_, _⟩ := hp_
        exact SqLF hO_.s (hS_ _ _ h21)
      · rintro i31 x32 H33 hi34 ⟨F39, st40, acc36, wa37, S41, O43, hl42, la38, hL25⟩
        have f_tree := f_tree.mono S41
        have f_rule := f_rule.mono S41
        have f_near := f_near.mono S41
        have f_lengths := f_lengths.mono S41
        have f_branch := f_branch.mono S41
        have h3 := S41 _ _ h3
        have h11 := S41 _ _ h11
        have hl12 := hl12.mono S41
        have r17 := r17.mono S41
        have h21 := S41 _ _ h21
        have hl22 := hl22.mono S41
        obtain ⟨y23, e44, r45⟩ := RL.got hl22 hi34
        rw [drop_at e44] at hL25
        have hk := hLs26 _ _ _ _ hL25
        obtain rfl := R.int_ r45
        refine ⟨rfl, _, rfl, _, rfl, _, _, R.int, R.int, _, rfl, ?_⟩
        refine iteD (fun q46 => ?_) (fun q46 => ?_)
        · have hk := wp_if hk q46
          refine ⟨_, rfl, _, rfl, _, rfl, _, rfl, _, rfl, _, rfl, (by show 2 ≤ sizeLine; decide), fun p47 hp48 => ?_⟩
          obtain ⟨F49, O50, S51, h52⟩ := O43.putE hp48 (.tup [V.int x_branch.2, V.int y23])
          have f_tree := f_tree.mono S51
          have f_rule := f_rule.mono S51
          have f_near := f_near.mono S51
          have f_lengths := f_lengths.mono S51
          have f_branch := f_branch.mono S51
          have h3 := S51 _ _ h3
          have h11 := S51 _ _ h11
          have hl12 := hl12.mono S51
          have r17 := r17.mono S51
          have h21 := S51 _ _ h21
          have hl22 := hl22.mono S51
          have S41 := S41.trans S51
          have hl42 := hl42.mono S51
          have h53 : R (a := (Int × Int)) F49 (.ref p47) (x_branch.2, y23) := R.t2 h52 R.int R.int
          refine ⟨_, _, _, _, _, _, _, _, _, _, _, rfl, O50.pre0, f_tree, f_rule, f_near, f_lengths, h53, wp_call hk (fun r54 er55 hk F56 H57 g58 p59 w60 hn61 hf62 h63 hl64 => ?_) (fun n hn => hn.elim)⟩
          have O65 := O50.call0 g58
          have S_ := g58.f
          have f_tree := f_tree.mono S_
          have f_rule := f_rule.mono S_
          have f_near := f_near.mono S_
          have f_lengths := f_lengths.mono S_
          have f_branch := f_branch.mono S_
          have h3 := S_ _ _ h3
          have h11 := S_ _ _ h11
          have hl12 := hl12.mono S_
          have r17 := r17.mono S_
          have h21 := S_ _ _ h21
          have hl22 := hl22.mono S_
          have S41 := S41.trans S_
          have hl42 := hl42.mono S_
          have h53 := h53.mono S_
          have O66 := O50.got O65 rfl hn61 hf62 h63
          have z67 := O50.was hn61
          obtain ⟨F68, O69, S70, h71⟩ := O66.frzE 0 rfl z67
          have f_tree := f_tree.mono S70
          have f_rule := f_rule.mono S70
          have f_near := f_near.mono S70
          have f_lengths := f_lengths.mono S70
          have f_branch := f_branch.mono S70
          have h3 := S70 _ _ h3
          have h11 := S70 _ _ h11
          have hl12 := hl12.mono S70
          have r17 := r17.mono S70
          have h21 := S70 _ _ h21
          have hl22 := hl22.mono S70
          have S41 := S41.trans S70
          have hl42 := hl42.mono S70
          have h53 := h53.mono S70
          have hl64 := hl64.mono S70
          have h72 := R.lst (a := Int) h71 hl64
          refine ⟨_, (O69.at 0 rfl), (comp_len la38 hi34 hl22.len c28), ?_⟩
          exact ⟨F68, (), acc36 ++ [r54], wa37 ++ [V.ref p59], S41, O69.set 0 (.lst (wa37 ++ [V.ref p59])) rfl, RL.snoc hl42 h72, by rw [List.length_append]; exact Nat.succ_le_succ la38, hk⟩
        · have hk := wp_el hk q46
          exact ⟨F39, (), acc36, wa37, S41, O43, hl42, Nat.le_succ_of_le la38, hk⟩
      rintro H74 ⟨F75, st76, acc77, wa78, S79, O80, hl81, la82, hL83⟩
      rw [drop_end hl22.len] at hL83
      have hk := hLd27 _ _ hL83
      have f_tree := f_tree.mono S79
      have f_rule := f_rule.mono S79
      have f_near := f_near.mono S79
      have f_lengths := f_lengths.mono S79
      have f_branch := f_branch.mono S79
      have h3 := S79 _ _ h3
      have h11 := S79 _ _ h11
      have hl12 := hl12.mono S79
      have r17 := r17.mono S79
      have h21 := S79 _ _ h21
      have hl22 := hl22.mono S79
      obtain ⟨F85, O86, S87, h88⟩ := O80.frzE 0 rfl z73
      have f_tree := f_tree.mono S87
      have f_rule := f_rule.mono S87
      have f_near := f_near.mono S87
      have f_lengths := f_lengths.mono S87
      have f_branch := f_branch.mono S87
      have h3 := S87 _ _ h3
      have h11 := S87 _ _ h11
      have hl12 := hl12.mono S87
      have r17 := r17.mono S87
      have h21 := S87 _ _ h21
      have hl22 := hl22.mono S87
      have hl81 := hl81.mono S87
      have h89 := R.lst (a := (List Int)) h88 hl81
      refine ⟨_, rfl, _, rfl, _, rfl, _, rfl, _, rfl, _, _, _, _, _, _, _, _, rfl, O86.pre0, f_tree, f_rule, h89, wp_call hk (fun r91 er92 hk F93 H94 g95 v96 r97 => ?_) (fun n hn C H1 hC kp => hn C H1 hC (O86.kp0 kp))⟩
      have O98 := O86.call0 g95
      have S_ := g95.f
      have f_tree := f_tree.mono S_
      have f_rule := f_rule.mono S_
      have f_near := f_near.mono S_
      have f_lengths := f_lengths.mono S_
      have f_branch := f_branch.mono S_
      have h3 := S_ _ _ h3
      have h11 := S_ _ _ h11
      have hl12 := hl12.mono S_
      have r17 := r17.mono S_
      have h21 := S_ _ _ h21
      have hl22 := hl22.mono S_
      have h89 := h89.mono S_
      obtain ⟨p99, v102, v103, e100, h101, r104, r105⟩ := R.t2_ f_tree
      cases e100
      obtain ⟨p106, w107, e108, h109, hl110⟩ := R.lst_ r104
      cases e108
      obtain ⟨y111, e112, hk⟩ := wp_opt hk
      obtain ⟨w113, e114, r115⟩ := hl110.atI e112
      obtain rfl := R.int_ r115
      obtain ⟨p116, w117, e118, h119, hl120⟩ := f_lengths
      cases e118
      have h119 : F93 _ = some (.dT w117) := h119
      have f_lengths := RDv.mk (κ := (Int × Int)) (β := Int) h119 hl120
      obtain ⟨y121, e122, hk⟩ := wp_opt hk
      obtain ⟨w123, e124, r125⟩ := RD.some hl120 (k := (x_branch.1, x_branch.2)) e122
      obtain rfl := R.int_ r125
      refine ⟨_, rfl, _, _, _, _, rfl, rfl, (SqTF O98.s h101), rfl, _, rfl, _, _, _, _, rfl, rfl, (SqLF O98.s h109), e114, _, rfl, _, rfl, _, _, rfl, (dget_T (O98.s _ _ h119) (O98.s _ _ h3) e124), _, _, _, _, _, _, _, rfl, O98.pre0, f_rule, r97, wp_call hk (fun r126 er127 hk F128 H129 g130 p131 w132 hn133 hf134 h135 hl136 => ?_) (fun n hn C H1 hC kp => hn C H1 hC (O98.kp0 kp))⟩
      have O137 := O98.call0 g130
      have S_ := g130.f
      have f_tree := f_tree.mono S_
      have f_rule := f_rule.mono S_
      have f_near := f_near.mono S_
      have f_lengths := f_lengths.mono S_
      have f_branch := f_branch.mono S_
      have h3 := S_ _ _ h3
      have h11 := S_ _ _ h11
      have hl12 := hl12.mono S_
      have r17 := r17.mono S_
      have h21 := S_ _ _ h21
      have hl22 := hl22.mono S_
      have h89 := h89.mono S_
      have r97 := r97.mono S_
      have h101 := S_ _ _ h101
      have r104 := r104.mono S_
      have r105 := r105.mono S_
      have h109 := S_ _ _ h109
      have hl110 := hl110.mono S_
      have h119 := S_ _ _ h119
      have hl120 := hl120.mono S_
      have O138 := O98.got O137 rfl hn133 hf134 h135
      have z139 := O98.was hn133
      exact hk _ _  O138.g  _ _ z139 (O138.cf _ (List.mem_of_getElem? (i := 0) rfl)) (O138.at 0 rfl) hl136
abbrev s_branch_row : Stmt := top 31
theorem sc_branch_row : FnScope ["tree", "rule", "branch", "lengths"] ["tree", "rule", "branch"] (defScope s_branch_row) := ⟨rfl, rfl, rfl, by decide +kernel, rfl, by decide +kernel, by decide +kernel⟩
def m_branch_row (x_tree : ((List Int) × (List (T3 Int Int Int)))) (x_rule : (T4 (List Sm) (List Sm) (List Sm) Sm)) (x_branch : (Int × Int)) : M ((List Int)) :=
m_need_rule x_rule >>= fun r1 =>
m_lengths_of x_tree >>= fun r7 =>
if dHas r7 x_branch = true then (
m_tied_places (x_tree.1.length : Int) x_tree.2 >>= fun r44 =>
m_row_down 60 x_tree x_rule r44 r7 x_branch >>= fun r63 =>
.ok r63)
else (
raise "NoPlace")
def sp_branch_row (mg : Str → Option Value) : Sp := fun vs H Q E => ∃ (F : Hp) (v_tree : V) (x_tree : ((List Int) × (List (T3 Int Int Int)))) (v_rule : V) (x_rule : (T4 (List Sm) (List Sm) (List Sm) Sm)) (v_branch : V) (x_branch : (Int × Int)), vs = [v_tree, v_rule, v_branch] ∧ Pre F [] H ∧ R (a := ((List Int) × (List (T3 Int Int Int)))) F v_tree x_tree ∧ R (a := (T4 (List Sm) (List Sm) (List Sm) Sm)) F v_rule x_rule ∧ R (a := (Int × Int)) F v_branch x_branch ∧
  wp (m_branch_row x_tree x_rule x_branch) (fun r => ∀ (F' H' : Hp), Gr [] F H F' H' → ∀ (p : Addr) (w : (List V)), H p = none → F' p = none → H' p = some (.lst w) → RL (a := Int) F' w r → Q (.ref p) H')
  (fun n => ∀ (C : Addr) (H' : Hp), mg (Str.ofString n) = some (.ref C) → Kp [] H H' → E (.ref C) none H')
set_option maxHeartbeats 2000000 in
theorem ok_branch_row (nb : Nb mg) (C_lengths_of : Ca P w K mg base "lengths_of" 1 ["tree"] (sp_lengths_of mg)) (C_need_rule : Ca P w K mg base "need_rule" 63 ["rule"] (sp_need_rule mg)) (C_row_down : Ca P w K mg base "row_down" 76 ["tree", "rule", "near", "lengths", "branch"] (sp_row_down 60 mg)) (C_tied_places : Ca P w K mg base "tied_places" 1 ["many", "ties"] (sp_tied_places mg)) (E_NoPlace : ∃ C, Xc K mg "NoPlace" C) (D : Df K mg "branch_row" "branch_row" s_branch_row ["tree", "rule", "branch"]) : Ca P w K mg base "branch_row" 77 ["tree", "rule", "branch"] (sp_branch_row mg) := by
  obtain ⟨fa_lengths_of, fd_lengths_of, G_lengths_of, M_lengths_of, K_lengths_of, B_lengths_of⟩ := C_lengths_of.ex
  obtain ⟨fa_need_rule, fd_need_rule, G_need_rule, M_need_rule, K_need_rule, B_need_rule⟩ := C_need_rule.ex
  obtain ⟨fa_row_down, fd_row_down, G_row_down, M_row_down, K_row_down, B_row_down⟩ := C_row_down.ex
  obtain ⟨fa_tied_places, fd_tied_places, G_tied_places, M_tied_places, K_tied_places, B_tied_places⟩ := C_tied_places.ex
  obtain ⟨XC_NoPlace, X_NoPlace⟩ := E_NoPlace
  refine Ca.mk' D sc_branch_row (fun vs H Q E h => ?_) (fun q_ f_ cdv A outer s H vs Q E hr h => ?_)
  · obtain ⟨F, _, _, _, _, _, _, rfl, _⟩ := h
    rfl
  · obtain ⟨F, v_tree, x_tree, v_rule, x_rule, v_branch, x_branch, rfl, P0, f_tree, f_rule, f_branch, hk⟩ := h
    have nd := sc_branch_row.nd
    have hu64 := hr.units
    have hu128 := hu128_of hr
    have O := P0.start
    refine ⟨_, (pss_cons (ps_expr (pe_call G_need_rule (hr.mono (by decide)) rfl M_need_rule K_need_rule B_need_rule .nil (passes_call (takes_of rfl rfl rfl rfl) fun _ _ _ _ h => h) (pa_cons (pv 1) pa_nil)))
  (pss_cons (ps_set (i := 3) nd rfl (Or.inl rfl) (pe_call G_lengths_of (hr.mono (by decide)) rfl M_lengths_of K_lengths_of B_lengths_of .nil (passes_call (takes_of rfl rfl rfl rfl) fun _ _ _ _ h => h) (pa_cons (pv 0) pa_nil)))
  (pss_cons (ps_if (pt_cmp (pc_dnotin (u1_of hu64) (pv 2) (pv 3))) (pss_one (ps_raise rfl (takes_of rfl rfl rfl rfl) (pmk_own PySem.F.excBase_ValueError X_NoPlace.x X_NoPlace.g X_NoPlace.k (raises_own X_NoPlace.b X_NoPlace.t) rfl))) pss_nil)
  (pss_one (ps_ret (pe_call G_row_down (hr.mono (by decide)) rfl M_row_down K_row_down B_row_down .nil (passes_call (takes_of rfl rfl rfl rfl) fun _ _ _ _ h => h) (pa_cons (pv 0) (pa_cons (pv 1) (pa_cons (pe_call G_tied_places (hr.mono (by decide)) rfl M_tied_places K_tied_places B_tied_places .nil (passes_call (takes_of rfl rfl rfl rfl) fun _ _ _ _ h => h) (pa_cons (pe_callB call_lenT (by rfl) nb.b_len PySem.boot_len (pa_cons (pe_ix (ixTupK (K := K) rfl) (pv 0) pe_int (fun _ _ => rfl)) pa_nil)) (pa_cons (pe_ix (ixTupK (K := K) rfl) (pv 0) pe_int (fun _ _ => rfl)) pa_nil))) (pa_cons (pv 3) (pa_cons (pv 2) pa_nil))))))))))), ?_⟩
    refine ⟨_, rfl, _, _, _, rfl, O.pre0, f_rule, wp_call hk (fun r1 er2 hk F3 H4 g5 => ?_) (fun n hn C H1 hC kp => hn C H1 hC (O.kp0 kp))⟩
    have O6 := O.call0 g5
    have S_ := g5.f
    have f_tree := f_tree.mono S_
    have f_rule := f_rule.mono S_
    have f_branch := f_branch.mono S_
    refine ⟨_, rfl, _, _, _, rfl, O6.pre0, f_tree, wp_call hk (fun r7 er8 hk F9 H10 g11 v12 r13 => ?_) (fun n hn C H1 hC kp => hn C H1 hC (O6.kp0 kp))⟩
    have O14 := O6.call0 g11
    have S_ := g11.f
    have f_tree := f_tree.mono S_
    have f_rule := f_rule.mono S_
    have f_branch := f_branch.mono S_
    obtain ⟨p15, w16, e17, h18, hl19⟩ := r13
    cases e17
    have h18 : F9 _ = some (.dT w16) := h18
    have r13 := RDv.mk (κ := (Int × Int)) (β := Int) h18 hl19
    obtain ⟨p20, v23, v24, e21, h22, r25, r26⟩ := R.t2_ f_branch
    cases e21
    obtain rfl := R.int_ r25
    obtain rfl := R.int_ r26
    obtain ⟨o27, hg28, ho29⟩ := din_T (O14.s _ _ h18) (O14.s _ _ h22) hl19
    refine ⟨_, rfl, _, rfl, _, _, rfl, hg28, ?_⟩
    rw [ho29]
    refine ⟨_, rfl, ?_⟩
    refine iteBN (fun q30 => ?_) (fun q30 => ?_)
    · have hk := wp_if hk q30
      obtain ⟨p32, v35, v36, e33, h34, r37, r38⟩ := R.t2_ f_tree
      cases e33
      obtain ⟨p39, w40, e41, h42, hl43⟩ := R.lst_ r37
      cases e41
      refine ⟨_, rfl, _, rfl, _, rfl, _, _, _, _, rfl, rfl, (SqTF O14.s h34), rfl, _, _, _, rfl, (.inl (O14.s _ _ h42)), hl43.len, _, rfl, _, _, _, _, rfl, rfl, (SqTF O14.s h34), rfl, _, _, _, _, rfl, O14.pre0, r38, wp_call hk (fun r44 er45 hk F46 H47 g48 p49 w50 hn51 hf52 h53 hl54 => ?_) (fun n hn C H1 hC kp => hn C H1 hC (O14.kp0 kp))⟩
      have O55 := O14.call0 g48
      have S_ := g48.f
      have f_tree := f_tree.mono S_
      have f_rule := f_rule.mono S_
      have f_branch := f_branch.mono S_
      have r13 := r13.mono S_
      have h18 := S_ _ _ h18
      have hl19 := hl19.mono S_
      have h22 := S_ _ _ h22
      have h34 := S_ _ _ h34
      have r37 := r37.mono S_
      have r38 := r38.mono S_
      have h42 := S_ _ _ h42
      have hl43 := hl43.mono S_
      have O56 := O14.got O55 rfl hn51 hf52 h53
      have z57 := O14.was hn51
      obtain ⟨F58, O59, S60, h61⟩ := O56.frzE 0 rfl z57
      have f_tree := f_tree.mono S60
      have f_rule := f_rule.mono S60
      have f_branch := f_branch.mono S60
      have r13 := r13.mono S60
      have h18 := S60 _ _ h18
      have hl19 := hl19.mono S60
      have h22 := S60 _ _ h22
      have h34 := S60 _ _ h34
      have r37 := r37.mono S60
      have r38 := r38.mono S60
      have h42 := S60 _ _ h42
      have hl43 := hl43.mono S60
      have hl54 := hl54.mono S60
      have h62 := R.lst (a := (List Int)) h61 hl54
      refine ⟨_, rfl, _, rfl, _, _, _, _, _, _, _, _, _, _, _, rfl, O59.pre0, f_tree, f_rule, h62, r13, f_branch, wp_call hk (fun r63 er64 hk F65 H66 g67 p68 w69 hn70 hf71 h72 hl73 => ?_) (fun n hn C H1 hC kp => hn C H1 hC (O59.kp0 kp))⟩
      have O74 := O59.call0 g67
      have S_ := g67.f
      have f_tree := f_tree.mono S_
      have f_rule := f_rule.mono S_
      have f_branch := f_branch.mono S_
      have r13 := r13.mono S_
      have h18 := S_ _ _ h18
      have hl19 := hl19.mono S_
      have h22 := S_ _ _ h22
      have h34 := S_ _ _ h34
      have r37 := r37.mono S_
      have r38 := r38.mono S_
      have h42 := S_ _ _ h42
      have hl43 := hl43.mono S_
      have h62 := h62.mono S_
      have O75 := O59.got O74 rfl hn70 hf71 h72
      have z76 := O59.was hn70
      exact hk _ _  O75.g  _ _ z76 (O75.cf _ (List.mem_of_getElem? (i := 0) rfl)) (O75.at 0 rfl) hl73
    · have hk := wp_el hk q30
      exact hk _ _ X_NoPlace.g O14.kp
abbrev s_seat_worth : Stmt := top 32
theorem sc_seat_worth : FnScope ["tree", "rule", "place", "near", "lengths", "rows", "c"] ["tree", "rule", "place"] (defScope s_seat_worth) := ⟨rfl, rfl, rfl, by decide +kernel, rfl, by decide +kernel, by decide +kernel⟩
def m_seat_worth (x_tree : ((List Int) × (List (T3 Int Int Int)))) (x_rule : (T4 (List Sm) (List Sm) (List Sm) Sm)) (x_place : Int) : M (Int) :=
m_need_rule x_rule >>= fun r1 =>
m_need_place x_tree x_place >>= fun r7 =>
m_tied_places (x_tree.1.length : Int) x_tree.2 >>= fun r25 =>
m_lengths_of x_tree >>= fun r44 =>
opt (atI r25 x_place) >>= fun y57 =>
compS (fun (y67 : Int) (st84 : Unit) =>
m_row_down 60 x_tree x_rule r25 r44 (x_place, y67) >>= fun r97 =>
.ok (some r97, ())) y57 () >>= fun q127 =>
m_row_with x_tree x_rule x_place q127.1 >>= fun r133 =>
opt (atI x_tree.1 x_place) >>= fun y146 =>
m_told_by x_rule r133 y146 >>= fun r151 =>
.ok r151
def sp_seat_worth (mg : Str → Option Value) : Sp := fun vs H Q E => ∃ (F : Hp) (v_tree : V) (x_tree : ((List Int) × (List (T3 Int Int Int)))) (v_rule : V) (x_rule : (T4 (List Sm) (List Sm) (List Sm) Sm)) (x_place : Int), vs = [v_tree, v_rule, V.int x_place] ∧ Pre F [] H ∧ R (a := ((List Int) × (List (T3 Int Int Int)))) F v_tree x_tree ∧ R (a := (T4 (List Sm) (List Sm) (List Sm) Sm)) F v_rule x_rule ∧
  wp (m_seat_worth x_tree x_rule x_place) (fun r => ∀ (F' H' : Hp), Gr [] F H F' H' → Q (V.int r) H')
  (fun n => ∀ (C : Addr) (H' : Hp), mg (Str.ofString n) = some (.ref C) → Kp [] H H' → E (.ref C) none H')
set_option maxHeartbeats 2000000 in
theorem ok_seat_worth (nb : Nb mg) (C_lengths_of : Ca P w K mg base "lengths_of" 1 ["tree"] (sp_lengths_of mg)) (C_need_place : Ca P w K mg base "need_place" 1 ["tree", "place"] (sp_need_place mg)) (C_need_rule : Ca P w K mg base "need_rule" 63 ["rule"] (sp_need_rule mg)) (C_row_down : Ca P w K mg base "row_down" 76 ["tree", "rule", "near", "lengths", "branch"] (sp_row_down 60 mg)) (C_row_with : Ca P w K mg base "row_with" 15 ["tree", "rule", "place", "near"] (sp_row_with mg)) (C_tied_places : Ca P w K mg base "tied_places" 1 ["many", "ties"] (sp_tied_places mg)) (C_told_by : Ca P w K mg base "told_by" 14 ["rule", "so", "own"] (sp_told_by mg)) (D : Df K mg "seat_worth" "seat_worth" s_seat_worth ["tree", "rule", "place"]) : Ca P w K mg base "seat_worth" 77 ["tree", "rule", "place"] (sp_seat_worth mg) := by
  obtain ⟨fa_lengths_of, fd_lengths_of, G_lengths_of, M_lengths_of, K_lengths_of, B_lengths_of⟩ := C_lengths_of.ex
  obtain ⟨fa_need_place, fd_need_place, G_need_place, M_need_place, K_need_place, B_need_place⟩ := C_need_place.ex
  obtain ⟨fa_need_rule, fd_need_rule, G_need_rule, M_need_rule, K_need_rule, B_need_rule⟩ := C_need_rule.ex
  obtain ⟨fa_row_down, fd_row_down, G_row_down, M_row_down, K_row_down, B_row_down⟩ := C_row_down.ex
  obtain ⟨fa_row_with, fd_row_with, G_row_with, M_row_with, K_row_with, B_row_with⟩ := C_row_with.ex
  obtain ⟨fa_tied_places, fd_tied_places, G_tied_places, M_tied_places, K_tied_places, B_tied_places⟩ := C_tied_places.ex
  obtain ⟨fa_told_by, fd_told_by, G_told_by, M_told_by, K_told_by, B_told_by⟩ := C_told_by.ex
  refine Ca.mk' D sc_seat_worth (fun vs H Q E h => ?_) (fun q_ f_ cdv A outer s H vs Q E hr h => ?_)
  · obtain ⟨F, _, _, _, _, _, rfl, _⟩ := h
    rfl
  · obtain ⟨F, v_tree, x_tree, v_rule, x_rule, x_place, rfl, P0, f_tree, f_rule, hk⟩ := h
    have nd := sc_seat_worth.nd
    have hu64 := hr.units
    have hu128 := hu128_of hr
    have O := P0.start
    refine ⟨_, (pss_cons (ps_expr (pe_call G_need_rule (hr.mono (by decide)) rfl M_need_rule K_need_rule B_need_rule .nil (passes_call (takes_of rfl rfl rfl rfl) fun _ _ _ _ h => h) (pa_cons (pv 1) pa_nil)))
  (pss_cons (ps_expr (pe_call G_need_place (hr.mono (by decide)) rfl M_need_place K_need_place B_need_place .nil (passes_call (takes_of rfl rfl rfl rfl) fun _ _ _ _ h => h) (pa_cons (pv 0) (pa_cons (pv 2) pa_nil))))
  (pss_cons (ps_set (i := 3) nd rfl (Or.inr rfl) (pe_call G_tied_places (hr.mono (by decide)) rfl M_tied_places K_tied_places B_tied_places .nil (passes_call (takes_of rfl rfl rfl rfl) fun _ _ _ _ h => h) (pa_cons (pe_callB call_lenT (by rfl) nb.b_len PySem.boot_len (pa_cons (pe_ix (ixTupK (K := K) rfl) (pv 0) pe_int (fun _ _ => rfl)) pa_nil)) (pa_cons (pe_ix (ixTupK (K := K) rfl) (pv 0) pe_int (fun _ _ => rfl)) pa_nil))))
  (pss_cons (ps_set (i := 4) nd rfl (Or.inr rfl) (pe_call G_lengths_of (hr.mono (by decide)) rfl M_lengths_of K_lengths_of B_lengths_of .nil (passes_call (takes_of rfl rfl rfl rfl) fun _ _ _ _ h => h) (pa_cons (pv 0) pa_nil)))
  (pss_cons (ps_setLc (i := 5) (own := [("c", 6)]) (g := gName 6) (tt := _) rfl nd rfl rfl (sw_true rfl rfl rfl (by decide +kernel)) (pi_list (pe_ix (ixListK (K := K) rfl) (pv 3) (pv 2) (fun _ _ => rfl))) (blkOk_by (own := [("c", 6)]) (N := ["tree", "rule", "place", "near", "lengths", "rows", "c"]) (sc := defScope s_seat_worth) (by decide +kernel)) (fun _ _ _ _ _ => (pg_name (i := 6) nd rfl (Or.inl rfl))) (fun _ _ _ _ _ => pts_nil) (fun _ _ _ _ _ => (pe_call G_row_down (hr.mono (by decide)) rfl M_row_down K_row_down B_row_down .nil passL (pa_cons (pv 0) (pa_cons (pv 1) (pa_cons (pv 3) (pa_cons (pv 4) (pa_cons (pe_tup (pa_cons (pv 2) (pa_cons (pv 6) pa_nil))) pa_nil))))))))
  (pss_one (ps_ret (pe_call G_told_by (hr.mono (by decide)) rfl M_told_by K_told_by B_told_by .nil (passes_call (takes_of rfl rfl rfl rfl) fun _ _ _ _ h => h) (pa_cons (pv 1) (pa_cons (pe_call G_row_with (hr.mono (by decide)) rfl M_row_with K_row_with B_row_with .nil (passes_call (takes_of rfl rfl rfl rfl) fun _ _ _ _ h => h) (pa_cons (pv 0) (pa_cons (pv 1) (pa_cons (pv 2) (pa_cons (pv 5) pa_nil))))) (pa_cons (pe_ix (ixListK (K := K) rfl) (pe_ix (ixTupK (K := K) rfl) (pv 0) pe_int (fun _ _ => rfl)) (pv 2) (fun _ _ => rfl)) pa_nil))))))))))), ?_⟩
    refine ⟨_, rfl, _, _, _, rfl, O.pre0, f_rule, wp_call hk (fun r1 er2 hk F3 H4 g5 => ?_) (fun n hn C H1 hC kp => hn C H1 hC (O.kp0 kp))⟩
    have O6 := O.call0 g5
    have S_ := g5.f
    have f_tree := f_tree.mono S_
    have f_rule := f_rule.mono S_
    refine ⟨_, rfl, _, rfl, _, _, _, _, rfl, O6.pre0, f_tree, wp_call hk (fun r7 er8 hk F9 H10 g11 => ?_) (fun n hn C H1 hC kp => hn C H1 hC (O6.kp0 kp))⟩
    have O12 := O6.call0 g11
    have S_ := g11.f
    have f_tree := f_tree.mono S_
    have f_rule := f_rule.mono S_
    obtain ⟨p13, v16, v17, e14, h15, r18, r19⟩ := R.t2_ f_tree
    cases e14
    obtain ⟨p20, w21, e22, h23, hl24⟩ := R.lst_ r18
    cases e22
    refine ⟨_, rfl, _, _, _, _, rfl, rfl, (SqTF O12.s h15), rfl, _, _, _, rfl, (.inl (O12.s _ _ h23)), hl24.len, _, rfl, _, _, _, _, rfl, rfl, (SqTF O12.s h15), rfl, _, _, _, _, rfl, O12.pre0, r19, wp_call hk (fun r25 er26 hk F27 H28 g29 p30 w31 hn32 hf33 h34 hl35 => ?_) (fun n hn C H1 hC kp => hn C H1 hC (O12.kp0 kp))⟩
    have O36 := O12.call0 g29
    have S_ := g29.f
    have f_tree := f_tree.mono S_
    have f_rule := f_rule.mono S_
    have h15 := S_ _ _ h15
    have r18 := r18.mono S_
    have r19 := r19.mono S_
    have h23 := S_ _ _ h23
    have hl24 := hl24.mono S_
    have O37 := O12.got O36 rfl hn32 hf33 h34
    have z38 := O12.was hn32
    obtain ⟨F39, O40, S41, h42⟩ := O37.frzE 0 rfl z38
    have f_tree := f_tree.mono S41
    have f_rule := f_rule.mono S41
    have h15 := S41 _ _ h15
    have r18 := r18.mono S41
    have r19 := r19.mono S41
    have h23 := S41 _ _ h23
    have hl24 := hl24.mono S41
    have hl35 := hl35.mono S41
    have h43 := R.lst (a := (List Int)) h42 hl35
    refine ⟨_, rfl, _, _, _, rfl, O40.pre0, f_tree, wp_call hk (fun r44 er45 hk F46 H47 g48 v49 r50 => ?_) (fun n hn C H1 hC kp => hn C H1 hC (O40.kp0 kp))⟩
    have O51 := O40.call0 g48
    have S_ := g48.f
    have f_tree := f_tree.mono S_
    have f_rule := f_rule.mono S_
    have h15 := S_ _ _ h15
    have r18 := r18.mono S_
    have r19 := r19.mono S_
    have h23 := S_ _ _ h23
    have hl24 := hl24.mono S_
    have h43 := h43.mono S_
    obtain ⟨p52, w53, e54, h55, hl56⟩ := R.lst_ h43
    cases e54
    obtain ⟨y57, e58, hk⟩ := wp_opt hk
    obtain ⟨w59, e60, r61⟩ := hl56.atI e58
    obtain ⟨p62, w63, e64, h65, hl66⟩ := R.lst_ r61
    cases e64
    obtain ⟨c72, L68, hL69, hLs70, hLd71⟩ := compS_L hk
    refine ⟨_, rfl, _, rfl, _, _, _, _, rfl, rfl, (SqLF O51.s h55), e60, _, rfl, ⟨_, (SqLF O51.s h65)⟩, fun p73 hp74 => ?_⟩
    have z116 := O51.was hp74
    refine lc_list (K := K) (xs := w63) (fun i H => ∃ (F_ : Hp) (st : Unit) (acc : List (List Int)) (wa : List V), Same F46 F_ ∧ Ow _ F_ [(p73, .lst wa)] H ∧ RL F_ wa acc ∧ wa.length ≤ i ∧ L68 (List.drop i y57) acc st) ⟨F46, (), [], [], Same.refl _, O51.new hp74, RL.nil, Nat.zero_le _, hL69⟩ (fun i_ H_ _ hp_ => ?_) ?_ ?_
    · obtain ⟨_, _, _, _, hS_, hO_, _⟩ := hp_
      exact SqLF hO_.s (hS_ _ _ h65)
    · rintro i75 x76 H77 hi78 ⟨F83, st84, acc80, wa81, S85, O87, hl86, la82, hL69⟩
      have f_tree := f_tree.mono S85
      have f_rule := f_rule.mono S85
      have h15 := S85 _ _ h15
      have r18 := r18.mono S85
      have r19 := r19.mono S85
      have h23 := S85 _ _ h23
      have hl24 := hl24.mono S85
      have h43 := h43.mono S85
      have r50 := r50.mono S85
      have h55 := S85 _ _ h55
      have hl56 := hl56.mono S85
      have r61 := r61.mono S85
      have h65 := S85 _ _ h65
      have hl66 := hl66.mono S85
      obtain ⟨y67, e88, r89⟩ := RL.got hl66 hi78
      rw [drop_at e88] at hL69
      have hk := hLs70 _ _ _ _ hL69
      obtain rfl := R.int_ r89
      refine ⟨rfl, ?_⟩
      refine ⟨_, rfl, _, rfl, _, rfl, _, rfl, _, rfl, _, rfl, (by show 2 ≤ sizeLine; decide), fun p90 hp91 => ?_⟩
      obtain ⟨F92, O93, S94, h95⟩ := O87.putE hp91 (.tup [V.int x_place, V.int y67])
      have f_tree := f_tree.mono S94
      have f_rule := f_rule.mono S94
      have h15 := S94 _ _ h15
      have r18 := r18.mono S94
      have r19 := r19.mono S94
      have h23 := S94 _ _ h23
      have hl24 := hl24.mono S94
      have h43 := h43.mono S94
      have r50 := r50.mono S94
      have h55 := S94 _ _ h55
      have hl56 := hl56.mono S94
      have r61 := r61.mono S94
      have h65 := S94 _ _ h65
      have hl66 := hl66.mono S94
      have S85 := S85.trans S94
      have hl86 := hl86.mono S94
      have h96 : R (a := (Int × Int)) F92 (.ref p90) (x_place, y67) := R.t2 h95 R.int R.int
      refine ⟨_, _, _, _, _, _, _, _, _, _, _, rfl, O93.pre0, f_tree, f_rule, h43, r50, h96, wp_call hk (fun r97 er98 hk F99 H100 g101 p102 w103 hn104 hf105 h106 hl107 => ?_) (fun n hn => hn.elim)⟩
      have O108 := O93.call0 g101
      have S_ := g101.f
      have f_tree := f_tree.mono S_
      have f_rule := f_rule.mono S_
      have h15 := S_ _ _ h15
      have r18 := r18.mono S_
      have r19 := r19.mono S_
      have h23 := S_ _ _ h23
      have hl24 := hl24.mono S_
      have h43 := h43.mono S_
      have r50 := r50.mono S_
      have h55 := S_ _ _ h55
      have hl56 := hl56.mono S_
      have r61 := r61.mono S_
      have h65 := S_ _ _ h65
      have hl66 := hl66.mono S_
      have S85 := S85.trans S_
      have hl86 := hl86.mono S_
      have h96 := h96.mono S_
      have O109 := O93.got O108 rfl hn104 hf105 h106
      have z110 := O93.was hn104
      obtain ⟨F111, O112, S113, h114⟩ := O109.frzE 0 rfl z110
      have f_tree := f_tree.mono S113
      have f_rule := f_rule.mono S113
      have h15 := S113 _ _ h15
      have r18 := r18.mono S113
      have r19 := r19.mono S113
      have h23 := S113 _ _ h23
      have hl24 := hl24.mono S113
      have h43 := h43.mono S113
      have r50 := r50.mono S113
      have h55 := S113 _ _ h55
      have hl56 := hl56.mono S113
      have r61 := r61.mono S113
      have h65 := S113 _ _ h65
      have hl66 := hl66.mono S113
      have S85 := S85.trans S113
      have hl86 := hl86.mono S113
      have h96 := h96.mono S113
      have hl107 := hl107.mono S113
      have h115 := R.lst (a := Int) h114 hl107
      refine ⟨_, (O112.at 0 rfl), (comp_len la82 hi78 hl66.len c72), ?_⟩
      exact ⟨F111, (), acc80 ++ [r97], wa81 ++ [V.ref p102], S85, O112.set 0 (.lst (wa81 ++ [V.ref p102])) rfl, RL.snoc hl86 h115, by rw [List.length_append]; exact Nat.succ_le_succ la82, hk⟩
    rintro H117 ⟨F118, st119, acc120, wa121, S122, O123, hl124, la125, hL126⟩
    rw [drop_end hl66.len] at hL126
    have hk := hLd71 _ _ hL126
    have f_tree := f_tree.mono S122
    have f_rule := f_rule.mono S122
    have h15 := S122 _ _ h15
    have r18 := r18.mono S122
    have r19 := r19.mono S122
    have h23 := S122 _ _ h23
    have hl24 := hl24.mono S122
    have h43 := h43.mono S122
    have r50 := r50.mono S122
    have h55 := S122 _ _ h55
    have hl56 := hl56.mono S122
    have r61 := r61.mono S122
    have h65 := S122 _ _ h65
    have hl66 := hl66.mono S122
    obtain ⟨F128, O129, S130, h131⟩ := O123.frzE 0 rfl z116
    have f_tree := f_tree.mono S130
    have f_rule := f_rule.mono S130
    have h15 := S130 _ _ h15
    have r18 := r18.mono S130
    have r19 := r19.mono S130
    have h23 := S130 _ _ h23
    have hl24 := hl24.mono S130
    have h43 := h43.mono S130
    have r50 := r50.mono S130
    have h55 := S130 _ _ h55
    have hl56 := hl56.mono S130
    have r61 := r61.mono S130
    have h65 := S130 _ _ h65
    have hl66 := hl66.mono S130
    have hl124 := hl124.mono S130
    have h132 := R.lst (a := (List Int)) h131 hl124
    refine ⟨_, rfl, _, rfl, _, rfl, _, rfl, _, rfl, _, _, _, _, _, _, _, _, rfl, O129.pre0, f_tree, f_rule, h132, wp_call hk (fun r133 er134 hk F135 H136 g137 v138 r139 => ?_) (fun n hn C H1 hC kp => hn C H1 hC (O129.kp0 kp))⟩
    have O140 := O129.call0 g137
    have S_ := g137.f
    have f_tree := f_tree.mono S_
    have f_rule := f_rule.mono S_
    have h15 := S_ _ _ h15
    have r18 := r18.mono S_
    have r19 := r19.mono S_
    have h23 := S_ _ _ h23
    have hl24 := hl24.mono S_
    have h43 := h43.mono S_
    have r50 := r50.mono S_
    have h55 := S_ _ _ h55
    have hl56 := hl56.mono S_
    have r61 := r61.mono S_
    have h65 := S_ _ _ h65
    have hl66 := hl66.mono S_
    have h132 := h132.mono S_
    obtain ⟨p141, w142, e143, h144, hl145⟩ := R.lst_ r18
    cases e143
    obtain ⟨y146, e147, hk⟩ := wp_opt hk
    obtain ⟨w148, e149, r150⟩ := hl145.atI e147
    obtain rfl := R.int_ r150
    refine ⟨_, rfl, _, _, _, _, rfl, rfl, (SqTF O140.s h15), rfl, _, rfl, _, _, _, _, rfl, rfl, (SqLF O140.s h144), e149, _, _, _, _, _, _, rfl, O140.pre0, f_rule, r139, wp_call hk (fun r151 er152 hk F153 H154 g155 => ?_) (fun n hn C H1 hC kp => hn C H1 hC (O140.kp0 kp))⟩
    have O156 := O140.call0 g155
    have S_ := g155.f
    have f_tree := f_tree.mono S_
    have f_rule := f_rule.mono S_
    have h15 := S_ _ _ h15
    have r18 := r18.mono S_
    have r19 := r19.mono S_
    have h23 := S_ _ _ h23
    have hl24 := hl24.mono S_
    have h43 := h43.mono S_
    have r50 := r50.mono S_
    have h55 := S_ _ _ h55
    have hl56 := hl56.mono S_
    have r61 := r61.mono S_
    have h65 := S_ _ _ h65
    have hl66 := hl66.mono S_
    have h132 := h132.mono S_
    have r139 := r139.mono S_
    have h144 := S_ _ _ h144
    have hl145 := hl145.mono S_
    exact hk _ _  O156.g 
abbrev s_law_stir : Stmt := top 34
theorem sc_law_stir : FnScope ["cell", "k", "number"] ["cell", "k"] (defScope s_law_stir) := ⟨rfl, rfl, rfl, by decide +kernel, rfl, by decide +kernel, by decide +kernel⟩
def m_law_stir (x_cell : Int) (x_k : Int) : M (Int) :=
chk (0 < ((10 : Int) ^ Int.toNat (40 : Int))) >>= fun _ =>
chk (CMulW (x_cell % ((10 : Int) ^ Int.toNat (40 : Int))) (48271 : Int)) >>= fun _ =>
chk (CMulW ((3 : Int) ^ Int.toNat (60 : Int)) (x_k + (1 : Int))) >>= fun _ =>
chk (CMulW (((3 : Int) ^ Int.toNat (60 : Int)) * (x_k + (1 : Int))) (x_k + (1 : Int))) >>= fun _ =>
ret ((((x_cell % ((10 : Int) ^ Int.toNat (40 : Int))) * (48271 : Int)) + ((((3 : Int) ^ Int.toNat (60 : Int)) * (x_k + (1 : Int))) * (x_k + (1 : Int)))) + x_k) >>= fun n5 =>
chk (CMulW n5 n5) >>= fun _ =>
chk (CMulW (69621 : Int) n5) >>= fun _ =>
ret ((n5 * n5) + ((69621 : Int) * n5)) >>= fun n9 =>
chk (CMulW n9 n9) >>= fun _ =>
chk (0 < (((10 : Int) ^ Int.toNat (61 : Int)) + (7 : Int))) >>= fun _ =>
chk (CDivW ((n9 * n9) % (((10 : Int) ^ Int.toNat (61 : Int)) + (7 : Int))) (8 : Int)) >>= fun _ =>
.ok (((n9 * n9) % (((10 : Int) ^ Int.toNat (61 : Int)) + (7 : Int))) / (8 : Int))
def sp_law_stir (mg : Str → Option Value) : Sp := fun vs H Q E => ∃ (F : Hp) (x_cell : Int) (x_k : Int), vs = [V.int x_cell, V.int x_k] ∧ Pre F [] H ∧
  wp (m_law_stir x_cell x_k) (fun r => ∀ (F' H' : Hp), Gr [] F H F' H' → Q (V.int r) H')
  (fun n => ∀ (C : Addr) (H' : Hp), mg (Str.ofString n) = some (.ref C) → Kp [] H H' → E (.ref C) none H')
set_option maxHeartbeats 2000000 in
theorem ok_law_stir (nb : Nb mg) (D : Df K mg "_law_stir" "_law_stir" s_law_stir ["cell", "k"]) : Ca P w K mg base "_law_stir" 1 ["cell", "k"] (sp_law_stir mg) := by
  refine Ca.mk' D sc_law_stir (fun vs H Q E h => ?_) (fun q_ f_ cdv A outer s H vs Q E hr h => ?_)
  · obtain ⟨F, _, _, rfl, _⟩ := h
    rfl
  · obtain ⟨F, x_cell, x_k, rfl, P0, hk⟩ := h
    have nd := sc_law_stir.nd
    have hu64 := hr.units
    have hu128 := hu128_of hr
    have O := P0.start
    refine ⟨_, (pss_cons (ps_set (i := 2) nd rfl (Or.inl rfl) (pe_op op_add (pe_op op_add (pe_op op_mulW (pe_op op_mod (pv 0) (pe_op op_pow pe_int pe_int)) pe_int) (pe_op op_mulW (pe_op op_mulW (pe_op op_pow pe_int pe_int) (pe_op op_add (pv 1) pe_int)) (pe_op op_add (pv 1) pe_int))) (pv 1)))
  (pss_cons (ps_set (i := 2) nd rfl (Or.inl rfl) (pe_op op_add (pe_op op_mulW (pv 2) (pv 2)) (pe_op op_mulW pe_int (pv 2))))
  (pss_one (ps_ret (pe_op op_fdivW (pe_op op_mod (pe_op op_mulW (pv 2) (pv 2)) (pe_op op_add (pe_op op_pow pe_int pe_int) pe_int)) pe_int))))), ?_⟩
    obtain ⟨c1, hk⟩ := wp_chk hk
    obtain ⟨c2, hk⟩ := wp_chk hk
    obtain ⟨c3, hk⟩ := wp_chk hk
    obtain ⟨c4, hk⟩ := wp_chk hk
    obtain ⟨n5, hn6, hk⟩ := wp_ret hk
    subst hn6
    obtain ⟨c7, hk⟩ := wp_chk hk
    obtain ⟨c8, hk⟩ := wp_chk hk
    obtain ⟨n9, hn10, hk⟩ := wp_ret hk
    subst hn10
    obtain ⟨c11, hk⟩ := wp_chk hk
    obtain ⟨c12, hk⟩ := wp_chk hk
    obtain ⟨c13, hk⟩ := wp_chk hk
    refine ⟨_, rfl, _, _, rfl, rfl, (by decide), _, _, rfl, rfl, c1, _, _, rfl, rfl, c2, _, _, rfl, rfl, (by decide), _, rfl, _, _, rfl, rfl, _, _, rfl, rfl, c3, _, rfl, _, _, rfl, rfl, _, _, rfl, rfl, c4, _, _, rfl, rfl, _, rfl, _, _, rfl, rfl, _, rfl, _, rfl, _, _, rfl, rfl, c7, _, rfl, _, _, rfl, rfl, c8, _, _, rfl, rfl, _, rfl, _, rfl, _, _, rfl, rfl, c11, _, _, rfl, rfl, (by decide), _, _, rfl, rfl, _, _, rfl, rfl, c12, _, _, rfl, rfl, c13, ?_⟩
    exact hk _ _  O.g 
abbrev s_law_deck : Stmt := top 35
theorem sc_law_deck : FnScope ["cell", "great"] ["cell"] (defScope s_law_deck) := ⟨rfl, rfl, rfl, by decide +kernel, rfl, by decide +kernel, by decide +kernel⟩
def m_law_deck (x_cell : Int) : M ((List Int)) :=
if ((10 : Int) ^ Int.toNat (18 : Int)) ≤ x_cell then (
chk (0 < (2147483629 : Int)) >>= fun _ =>
.ok ([(x_cell - ((10 : Int) ^ Int.toNat (18 : Int))), ((x_cell - ((10 : Int) ^ Int.toNat (18 : Int))) % (2147483629 : Int))]))
else (
m_law_stir x_cell (1 : Int) >>= fun r11 =>
chk (CMulW r11 ((10 : Int) ^ Int.toNat (60 : Int))) >>= fun _ =>
m_law_stir x_cell (2 : Int) >>= fun r18 =>
chk (CMulW ((r11 * ((10 : Int) ^ Int.toNat (60 : Int))) + r18) ((10 : Int) ^ Int.toNat (60 : Int))) >>= fun _ =>
m_law_stir x_cell (3 : Int) >>= fun r25 =>
chk (0 < (2147483628 : Int)) >>= fun _ =>
.ok ([((((r11 * ((10 : Int) ^ Int.toNat (60 : Int))) + r18) * ((10 : Int) ^ Int.toNat (60 : Int))) + r25), ((x_cell % (2147483628 : Int)) + (1 : Int))]))
def sp_law_deck (mg : Str → Option Value) : Sp := fun vs H Q E => ∃ (F : Hp) (x_cell : Int), vs = [V.int x_cell] ∧ Pre F [] H ∧
  wp (m_law_deck x_cell) (fun r => ∀ (F' H' : Hp), Gr [] F H F' H' → ∀ (p : Addr) (w : (List V)), H p = none → F' p = none → H' p = some (.lst w) → RL (a := Int) F' w r → Q (.ref p) H')
  (fun n => ∀ (C : Addr) (H' : Hp), mg (Str.ofString n) = some (.ref C) → Kp [] H H' → E (.ref C) none H')
set_option maxHeartbeats 2000000 in
theorem ok_law_deck (nb : Nb mg) (C_law_stir : Ca P w K mg base "_law_stir" 1 ["cell", "k"] (sp_law_stir mg)) (D : Df K mg "_law_deck" "_law_deck" s_law_deck ["cell"]) : Ca P w K mg base "_law_deck" 2 ["cell"] (sp_law_deck mg) := by
  obtain ⟨fa_law_stir, fd_law_stir, G_law_stir, M_law_stir, K_law_stir, B_law_stir⟩ := C_law_stir.ex
  refine Ca.mk' D sc_law_deck (fun vs H Q E h => ?_) (fun q_ f_ cdv A outer s H vs Q E hr h => ?_)
  · obtain ⟨F, _, rfl, _⟩ := h
    rfl
  · obtain ⟨F, x_cell, rfl, P0, hk⟩ := h
    have nd := sc_law_deck.nd
    have hu64 := hr.units
    have hu128 := hu128_of hr
    have O := P0.start
    refine ⟨_, (pss_cons (ps_if (pt_cmpR op_ge (pv 0) (pe_op op_pow pe_int pe_int) (nomark _)) (pss_one (ps_ret (pe_lst (pa_cons (pe_op op_sub (pv 0) (pe_op op_pow pe_int pe_int)) (pa_cons (pe_op op_mod (pe_op op_sub (pv 0) (pe_op op_pow pe_int pe_int)) pe_int) pa_nil))))) pss_nil)
  (pss_cons (ps_set (i := 1) nd rfl (Or.inl rfl) (pe_op op_add (pe_op op_mulW (pe_op op_add (pe_op op_mulW (pe_call G_law_stir (hr.mono (by decide)) rfl M_law_stir K_law_stir B_law_stir .nil (passes_call (takes_of rfl rfl rfl rfl) fun _ _ _ _ h => h) (pa_cons (pv 0) (pa_cons pe_int pa_nil))) (pe_op op_pow pe_int pe_int)) (pe_call G_law_stir (hr.mono (by decide)) rfl M_law_stir K_law_stir B_law_stir .nil (passes_call (takes_of rfl rfl rfl rfl) fun _ _ _ _ h => h) (pa_cons (pv 0) (pa_cons pe_int pa_nil)))) (pe_op op_pow pe_int pe_int)) (pe_call G_law_stir (hr.mono (by decide)) rfl M_law_stir K_law_stir B_law_stir .nil (passes_call (takes_of rfl rfl rfl rfl) fun _ _ _ _ h => h) (pa_cons (pv 0) (pa_cons pe_int pa_nil)))))
  (pss_one (ps_ret (pe_lst (pa_cons (pv 1) (pa_cons (pe_op op_add (pe_op op_mod (pv 0) pe_int) pe_int) pa_nil))))))), ?_⟩
    refine ⟨_, rfl, _, _, rfl, rfl, (by decide), _, _, rfl, rfl, _, rfl, ?_⟩
    refine iteD (fun q1 => ?_) (fun q1 => ?_)
    · have hk := wp_if hk q1
      obtain ⟨c5, hk⟩ := wp_chk hk
      refine ⟨_, rfl, _, _, rfl, rfl, (by decide), _, _, rfl, rfl, _, rfl, _, _, rfl, rfl, (by decide), _, _, rfl, rfl, _, _, rfl, rfl, c5, (by show 2 ≤ sizeLine; decide), fun p6 hp7 => ?_⟩
      have hl9 : RL (a := Int) F ([V.int (x_cell - ((10 : Int) ^ Int.toNat (18 : Int))), V.int ((x_cell - ((10 : Int) ^ Int.toNat (18 : Int))) % (2147483629 : Int))]) ([(x_cell - ((10 : Int) ^ Int.toNat (18 : Int))), ((x_cell - ((10 : Int) ^ Int.toNat (18 : Int))) % (2147483629 : Int))]) := RL.cons R.int (RL.cons R.int RL.nil)
      have z10 := O.was hp7
      have O8 := O.new (o := .lst ([V.int (x_cell - ((10 : Int) ^ Int.toNat (18 : Int))), V.int ((x_cell - ((10 : Int) ^ Int.toNat (18 : Int))) % (2147483629 : Int))])) hp7
      exact hk _ _  O8.g  _ _ z10 (O8.cf _ (List.mem_of_getElem? (i := 0) rfl)) (O8.at 0 rfl) hl9
    · have hk := wp_el hk q1
      refine ⟨_, rfl, _, _, _, rfl, O.pre0, wp_call hk (fun r11 er12 hk F13 H14 g15 => ?_) (fun n hn C H1 hC kp => hn C H1 hC (O.kp0 kp))⟩
      have O16 := O.call0 g15
      have S_ := g15.f
      obtain ⟨c17, hk⟩ := wp_chk hk
      refine ⟨_, _, rfl, rfl, (by decide), _, _, rfl, rfl, c17, _, rfl, _, _, _, rfl, O16.pre0, wp_call hk (fun r18 er19 hk F20 H21 g22 => ?_) (fun n hn C H1 hC kp => hn C H1 hC (O16.kp0 kp))⟩
      have O23 := O16.call0 g22
      have S_ := g22.f
      obtain ⟨c24, hk⟩ := wp_chk hk
      refine ⟨_, _, rfl, rfl, _, _, rfl, rfl, (by decide), _, _, rfl, rfl, c24, _, rfl, _, _, _, rfl, O23.pre0, wp_call hk (fun r25 er26 hk F27 H28 g29 => ?_) (fun n hn C H1 hC kp => hn C H1 hC (O23.kp0 kp))⟩
      have O30 := O23.call0 g29
      have S_ := g29.f
      obtain ⟨c33, hk⟩ := wp_chk hk
      refine ⟨_, _, rfl, rfl, _, rfl, _, rfl, _, _, rfl, rfl, c33, _, _, rfl, rfl, (by show 2 ≤ sizeLine; decide), fun p34 hp35 => ?_⟩
      have hl37 : RL (a := Int) F27 ([V.int ((((r11 * ((10 : Int) ^ Int.toNat (60 : Int))) + r18) * ((10 : Int) ^ Int.toNat (60 : Int))) + r25), V.int ((x_cell % (2147483628 : Int)) + (1 : Int))]) ([((((r11 * ((10 : Int) ^ Int.toNat (60 : Int))) + r18) * ((10 : Int) ^ Int.toNat (60 : Int))) + r25), ((x_cell % (2147483628 : Int)) + (1 : Int))]) := RL.cons R.int (RL.cons R.int RL.nil)
      have z38 := O30.was hp35
      have O36 := O30.new (o := .lst ([V.int ((((r11 * ((10 : Int) ^ Int.toNat (60 : Int))) + r18) * ((10 : Int) ^ Int.toNat (60 : Int))) + r25), V.int ((x_cell % (2147483628 : Int)) + (1 : Int))])) hp35
      exact hk _ _  O36.g  _ _ z38 (O36.cf _ (List.mem_of_getElem? (i := 0) rfl)) (O36.at 0 rfl) hl37
abbrev s_law_take : Stmt := top 36
theorem sc_law_take : FnScope ["deck", "many", "taken"] ["deck", "many"] (defScope s_law_take) := ⟨rfl, rfl, rfl, by decide +kernel, rfl, by decide +kernel, by decide +kernel⟩
def m_law_take (x_deck : (List Int)) (x_many : Int) : M (Int × (List Int)) :=
opt (atI x_deck (0 : Int)) >>= fun y1 =>
if y1 = (0 : Int) then (
opt (atI x_deck (1 : Int)) >>= fun y7 =>
chk (CMulW y7 (48271 : Int)) >>= fun _ =>
opt (atI x_deck (1 : Int)) >>= fun y13 =>
chk (CDivW y13 (7 : Int)) >>= fun _ =>
chk (0 < (2147483647 : Int)) >>= fun _ =>
setI x_deck (1 : Int) (((y7 * (48271 : Int)) + (y13 / (7 : Int))) % (2147483647 : Int)) >>= fun z22 =>
opt (atI z22 (1 : Int)) >>= fun y25 =>
chk (CMulW y25 (69621 : Int)) >>= fun _ =>
chk (0 < (2147483563 : Int)) >>= fun _ =>
chk (CDivW ((y25 * (69621 : Int)) % (2147483563 : Int)) (8 : Int)) >>= fun _ =>
chk (0 < x_many) >>= fun _ =>
.ok (((((y25 * (69621 : Int)) % (2147483563 : Int)) / (8 : Int)) % x_many), z22))
else (
opt (atI x_deck (0 : Int)) >>= fun y34 =>
chk (0 < x_many) >>= fun _ =>
opt (atI x_deck (0 : Int)) >>= fun y40 =>
chk (CDivW y40 x_many) >>= fun _ =>
setI x_deck (0 : Int) (y40 / x_many) >>= fun z48 =>
.ok ((y34 % x_many), z48))
def sp_law_take (mg : Str → Option Value) : Sp := fun vs H Q E => ∃ (F : Hp) (a_deck : Addr) (w_deck : (List V)) (x_deck : (List Int)) (x_many : Int), vs = [.ref a_deck, V.int x_many] ∧ Pre F [(a_deck, .lst w_deck)] H ∧ RL (a := Int) F w_deck x_deck ∧
  wp (m_law_take x_deck x_many) (fun r => ∀ (F' H' : Hp) (w0 : (List V)), Gr [a_deck] F H F' H' → H' a_deck = some (.lst w0) → RL (a := Int) F' w0 r.2 → Q (V.int r.1) H')
  (fun n => ∀ (C : Addr) (H' : Hp), mg (Str.ofString n) = some (.ref C) → Kp [a_deck] H H' → E (.ref C) none H')
set_option maxHeartbeats 2000000 in
theorem ok_law_take (nb : Nb mg) (D : Df K mg "_law_take" "_law_take" s_law_take ["deck", "many"]) : Ca P w K mg base "_law_take" 1 ["deck", "many"] (sp_law_take mg) := by
  refine Ca.mk' D sc_law_take (fun vs H Q E h => ?_) (fun q_ f_ cdv A outer s H vs Q E hr h => ?_)
  · obtain ⟨F, _, _, _, _, rfl, _⟩ := h
    rfl
  · obtain ⟨F, a_deck, w_deck, x_deck, x_many, rfl, P0, f_deck, hk⟩ := h
    have nd := sc_law_take.nd
    have hu64 := hr.units
    have hu128 := hu128_of hr
    have O := P0.start
    refine ⟨_, (pss_cons (ps_if (pt_cmpR (op_eqT Int hu64) (pe_ix (ixListK (K := K) rfl) (pv 0) pe_int (fun _ _ => rfl)) pe_int (nomark _)) (pss_cons (ps_asg (pe_op op_mod (pe_op op_add (pe_op op_mulW (pe_ix (ixListK (K := K) rfl) (pv 0) pe_int (fun _ _ => rfl)) pe_int) (pe_op op_fdivW (pe_ix (ixListK (K := K) rfl) (pv 0) pe_int (fun _ _ => rfl)) pe_int)) pe_int) (pg_sub (pv 0) pe_int set_list))
  (pss_one (ps_ret (pe_op op_mod (pe_op op_fdivW (pe_op op_mod (pe_op op_mulW (pe_ix (ixListK (K := K) rfl) (pv 0) pe_int (fun _ _ => rfl)) pe_int) pe_int) pe_int) (pv 1))))) pss_nil)
  (pss_cons (ps_set (i := 2) nd rfl (Or.inl rfl) (pe_op op_mod (pe_ix (ixListK (K := K) rfl) (pv 0) pe_int (fun _ _ => rfl)) (pv 1)))
  (pss_cons (ps_asg (pe_op op_fdivW (pe_ix (ixListK (K := K) rfl) (pv 0) pe_int (fun _ _ => rfl)) (pv 1)) (pg_sub (pv 0) pe_int set_list))
  (pss_one (ps_ret (pv 2)))))), ?_⟩
    obtain ⟨y1, e2, hk⟩ := wp_opt hk
    obtain ⟨w3, e4, r5⟩ := f_deck.atI e2
    obtain rfl := R.int_ r5
    refine ⟨_, rfl, _, _, _, _, rfl, rfl, (SqL.of (O.at 0 rfl)), e4, _, _, R.int, R.int, _, rfl, ?_⟩
    refine iteD (fun q6 => ?_) (fun q6 => ?_)
    · have hk := wp_if hk q6
      obtain ⟨y7, e8, hk⟩ := wp_opt hk
      obtain ⟨w9, e10, r11⟩ := f_deck.atI e8
      obtain rfl := R.int_ r11
      obtain ⟨c12, hk⟩ := wp_chk hk
      obtain ⟨y13, e14, hk⟩ := wp_opt hk
      obtain ⟨w15, e16, r17⟩ := f_deck.atI e14
      obtain rfl := R.int_ r17
      obtain ⟨c18, hk⟩ := wp_chk hk
      obtain ⟨c19, hk⟩ := wp_chk hk
      obtain ⟨j20, e21, hk⟩ := wp_setI hk
      refine ⟨_, rfl, _, _, _, _, rfl, rfl, (SqL.of (O.at 0 rfl)), e10, _, _, rfl, rfl, c12, _, rfl, _, _, _, _, rfl, rfl, (SqL.of (O.at 0 rfl)), e16, _, _, rfl, rfl, c18, _, _, rfl, rfl, _, _, rfl, rfl, c19, _, rfl, _, _, _, _, rfl, rfl, (O.at 0 rfl), (by rw [f_deck.len]; exact e21), ?_⟩
      have O23 := O.set 0 (.lst (w_deck.set j20 (V.int (((y7 * (48271 : Int)) + (y13 / (7 : Int))) % (2147483647 : Int))))) rfl
      have hl24 : RL (a := Int) F (w_deck.set j20 (V.int (((y7 * (48271 : Int)) + (y13 / (7 : Int))) % (2147483647 : Int)))) (x_deck.set j20 (((y7 * (48271 : Int)) + (y13 / (7 : Int))) % (2147483647 : Int))) := RL.set j20 f_deck R.int
      obtain ⟨y25, e26, hk⟩ := wp_opt hk
      obtain ⟨w27, e28, r29⟩ := hl24.atI e26
      obtain rfl := R.int_ r29
      obtain ⟨c30, hk⟩ := wp_chk hk
      obtain ⟨c31, hk⟩ := wp_chk hk
      obtain ⟨c32, hk⟩ := wp_chk hk
      obtain ⟨c33, hk⟩ := wp_chk hk
      refine ⟨_, rfl, _, _, _, _, rfl, rfl, (SqL.of (O23.at 0 rfl)), e28, _, _, rfl, rfl, c30, _, _, rfl, rfl, c31, _, _, rfl, rfl, c32, _, rfl, _, _, rfl, rfl, c33, ?_⟩
      exact hk _ _ (w_deck.set j20 (V.int (((y7 * (48271 : Int)) + (y13 / (7 : Int))) % (2147483647 : Int)))) O23.g (O23.at 0 rfl) hl24
    · have hk := wp_el hk q6
      obtain ⟨y34, e35, hk⟩ := wp_opt hk
      obtain ⟨w36, e37, r38⟩ := f_deck.atI e35
      obtain rfl := R.int_ r38
      obtain ⟨c39, hk⟩ := wp_chk hk
      obtain ⟨y40, e41, hk⟩ := wp_opt hk
      obtain ⟨w42, e43, r44⟩ := f_deck.atI e41
      obtain rfl := R.int_ r44
      obtain ⟨c45, hk⟩ := wp_chk hk
      obtain ⟨j46, e47, hk⟩ := wp_setI hk
      refine ⟨_, rfl, _, _, _, _, rfl, rfl, (SqL.of (O.at 0 rfl)), e37, _, rfl, _, _, rfl, rfl, c39, _, rfl, _, _, _, _, rfl, rfl, (SqL.of (O.at 0 rfl)), e43, _, rfl, _, _, rfl, rfl, c45, _, rfl, _, _, _, _, rfl, rfl, (O.at 0 rfl), (by rw [f_deck.len]; exact e47), ?_⟩
      have O49 := O.set 0 (.lst (w_deck.set j46 (V.int (y40 / x_many)))) rfl
      have hl50 : RL (a := Int) F (w_deck.set j46 (V.int (y40 / x_many))) (x_deck.set j46 (y40 / x_many)) := RL.set j46 f_deck R.int
      refine ⟨_, rfl, ?_⟩
      exact hk _ _ (w_deck.set j46 (V.int (y40 / x_many))) O49.g (O49.at 0 rfl) hl50
abbrev s_law_number : Stmt := top 38
theorem sc_law_number : FnScope ["deck", "far"] ["deck", "far"] (defScope s_law_number) := ⟨rfl, rfl, rfl, by decide +kernel, rfl, by decide +kernel, by decide +kernel⟩
def m_law_number (x_deck : (List Int)) (x_far : Int) : M (Int × (List Int)) :=
chk (CMulW (2 : Int) x_far) >>= fun _ =>
m_law_take x_deck (((2 : Int) * x_far) + (1 : Int)) >>= fun r2 =>
.ok ((r2.1 - x_far), r2.2)
def sp_law_number (mg : Str → Option Value) : Sp := fun vs H Q E => ∃ (F : Hp) (a_deck : Addr) (w_deck : (List V)) (x_deck : (List Int)) (x_far : Int), vs = [.ref a_deck, V.int x_far] ∧ Pre F [(a_deck, .lst w_deck)] H ∧ RL (a := Int) F w_deck x_deck ∧
  wp (m_law_number x_deck x_far) (fun r => ∀ (F' H' : Hp) (w0 : (List V)), Gr [a_deck] F H F' H' → H' a_deck = some (.lst w0) → RL (a := Int) F' w0 r.2 → Q (V.int r.1) H')
  (fun n => ∀ (C : Addr) (H' : Hp), mg (Str.ofString n) = some (.ref C) → Kp [a_deck] H H' → E (.ref C) none H')
set_option maxHeartbeats 2000000 in
theorem ok_law_number (nb : Nb mg) (C_law_take : Ca P w K mg base "_law_take" 1 ["deck", "many"] (sp_law_take mg)) (D : Df K mg "_law_number" "_law_number" s_law_number ["deck", "far"]) : Ca P w K mg base "_law_number" 2 ["deck", "far"] (sp_law_number mg) := by
  obtain ⟨fa_law_take, fd_law_take, G_law_take, M_law_take, K_law_take, B_law_take⟩ := C_law_take.ex
  refine Ca.mk' D sc_law_number (fun vs H Q E h => ?_) (fun q_ f_ cdv A outer s H vs Q E hr h => ?_)
  · obtain ⟨F, _, _, _, _, rfl, _⟩ := h
    rfl
  · obtain ⟨F, a_deck, w_deck, x_deck, x_far, rfl, P0, f_deck, hk⟩ := h
    have nd := sc_law_number.nd
    have hu64 := hr.units
    have hu128 := hu128_of hr
    have O := P0.start
    refine ⟨_, (pss_one (ps_ret (pe_op op_sub (pe_call G_law_take (hr.mono (by decide)) rfl M_law_take K_law_take B_law_take .nil (passes_call (takes_of rfl rfl rfl rfl) fun _ _ _ _ h => h) (pa_cons (pv 0) (pa_cons (pe_op op_add (pe_op op_mulW pe_int (pv 1)) pe_int) pa_nil))) (pv 1)))), ?_⟩
    obtain ⟨c1, hk⟩ := wp_chk hk
    refine ⟨_, rfl, _, rfl, _, _, rfl, rfl, c1, _, _, rfl, rfl, _, _, _, _, _, rfl, (O.pre1 0 rfl), f_deck, wp_call hk (fun r2 er3 hk F4 H5 w7 g6 h8 hl9 => ?_) (fun n hn C H1 hC kp => hn C H1 hC (O.kp1 kp 0 rfl))⟩
    have O10 := O.call1 g6 0 rfl h8
    have S_ := g6.f
    refine ⟨_, rfl, _, _, rfl, rfl, ?_⟩
    exact hk _ _ w7 O10.g (O10.at 0 rfl) hl9
abbrev s_law_order : Stmt := top 39
theorem sc_law_order : FnScope ["deck", "many", "left", "found", "k"] ["deck", "many"] (defScope s_law_order) := ⟨rfl, rfl, rfl, by decide +kernel, rfl, by decide +kernel, by decide +kernel⟩
def m_law_order (x_deck : (List Int)) (x_many : Int) : M ((List Int) × (List Int)) :=
chk (okR x_many) >>= fun _ =>
chk (okR x_many) >>= fun _ =>
loopN (fun (y14 : Int) (st26 : (List Int) × (List Int) × (List Int)) =>
m_law_take st26.2.2 (st26.2.1.length : Int) >>= fun r36 =>
popI st26.2.1 r36.1 >>= fun t54 =>
appL st26.1 t54.1 >>= fun _ =>
.ok ((st26.1 ++ [t54.1]), t54.2, r36.2)) (rangeL 0 x_many) (([] : List Int), (rangeL 0 x_many), x_deck) >>= fun st64 =>
.ok (st64.1, st64.2.2)
def sp_law_order (mg : Str → Option Value) : Sp := fun vs H Q E => ∃ (F : Hp) (a_deck : Addr) (w_deck : (List V)) (x_deck : (List Int)) (x_many : Int), vs = [.ref a_deck, V.int x_many] ∧ Pre F [(a_deck, .lst w_deck)] H ∧ RL (a := Int) F w_deck x_deck ∧
  wp (m_law_order x_deck x_many) (fun r => ∀ (F' H' : Hp) (w0 : (List V)), Gr [a_deck] F H F' H' → H' a_deck = some (.lst w0) → RL (a := Int) F' w0 r.2 → ∀ (p : Addr) (w : (List V)), H p = none → F' p = none → H' p = some (.lst w) → RL (a := Int) F' w r.1 → Q (.ref p) H')
  (fun n => ∀ (C : Addr) (H' : Hp), mg (Str.ofString n) = some (.ref C) → Kp [a_deck] H H' → E (.ref C) none H')
set_option maxHeartbeats 2000000 in
theorem ok_law_order (nb : Nb mg) (C_law_take : Ca P w K mg base "_law_take" 1 ["deck", "many"] (sp_law_take mg)) (D : Df K mg "_law_order" "_law_order" s_law_order ["deck", "many"]) : Ca P w K mg base "_law_order" 2 ["deck", "many"] (sp_law_order mg) := by
  obtain ⟨fa_law_take, fd_law_take, G_law_take, M_law_take, K_law_take, B_law_take⟩ := C_law_take.ex
  refine Ca.mk' D sc_law_order (fun vs H Q E h => ?_) (fun q_ f_ cdv A outer s H vs Q E hr h => ?_)
  · obtain ⟨F, _, _, _, _, rfl, _⟩ := h
    rfl
  · obtain ⟨F, a_deck, w_deck, x_deck, x_many, rfl, P0, f_deck, hk⟩ := h
    have nd := sc_law_order.nd
    have hu64 := hr.units
    have hu128 := hu128_of hr
    have O := P0.start
    refine ⟨_, (pss_cons (ps_set (i := 2) nd rfl (Or.inl rfl) (pe_listRg rfl (by rfl) nb.b_list (prg_1 (by rfl) nb.b_range (pv 1))))
  (pss_cons (ps_set (i := 3) nd rfl (Or.inl rfl) (pe_lst pa_nil))
  (pss_cons (ps_for (passes_of rfl) rfl (pi_range1 rfl nb.b_range (pa_cons (pv 1) pa_nil)) (pg_name (i := 4) nd rfl (Or.inl rfl)) (pss_one (ps_expr (pe_bm PySem.F.plainAttrs_list PySem.F.slot_list_append PySem.F.type_list_append mt_append (pv 3) (pa_cons (pe_bm PySem.F.plainAttrs_list PySem.F.slot_list_pop PySem.F.type_list_pop mt_popAt (pv 2) (pa_cons (pe_call G_law_take (hr.mono (by decide)) rfl M_law_take K_law_take B_law_take .nil (passes_call (takes_of rfl rfl rfl rfl) fun _ _ _ _ h => h) (pa_cons (pv 0) (pa_cons (pe_callB call_lenT (by rfl) nb.b_len PySem.boot_len (pa_cons (pv 2) pa_nil)) pa_nil))) pa_nil)) pa_nil)))))
  (pss_one (ps_ret (pv 3)))))), ?_⟩
    obtain ⟨c2, hk⟩ := wp_chk hk
    refine ⟨_, rfl, _, rfl, c2.rg1, fun p3 hp4 => ?_⟩
    have hl6 : RL (a := Int) F (rgV 0 x_many) (rangeL 0 x_many) := RL.rg
    have z7 := O.was hp4
    have O5 := O.new (o := .lst (rgV 0 x_many)) hp4
    refine ⟨(by show 0 ≤ sizeLine; decide), fun p9 hp10 => ?_⟩
    have hl12 : RL (a := Int) F ([]) ([] : List Int) := RL.nil
    have z13 := O5.was hp10
    have O11 := O5.new (o := .lst ([])) hp10
    obtain ⟨c15, hk⟩ := wp_chk hk
    obtain ⟨L16, hL17, hLs18, hLd19⟩ := loopN_L hk
    refine ⟨_, rfl, _, rfl, c15.lo, c15.hi, ?_⟩
    refine for_range (lo := 0) (n := (x_many).toNat) (fun i σ H => ∃ (F_ : Hp) (st : (List Int) × (List Int) × (List Int)) (w_0 : (List V)) (w_1 : (List V)) (w_2 : (List V)) (t_0 : Option V), σ = [some (V.ref a_deck), some (V.int x_many), some (V.ref p3), some (V.ref p9), t_0] ∧ Same F F_ ∧ Ow _ F_ [(p9, .lst w_0), (p3, .lst w_1), (a_deck, .lst w_2)] H ∧ RL (a := Int) F_ w_0 st.1 ∧ RL (a := Int) F_ w_1 st.2.1 ∧ RL (a := Int) F_ w_2 st.2.2 ∧ L16 (List.drop i (rangeL 0 x_many)) st) ⟨F, (([] : List Int), (rangeL 0 x_many), x_deck), [], (rgV 0 x_many), w_deck, none, rfl, Same.refl _, O11, hl12, hl6, f_deck, hL17⟩ ?_ ?_
    · rintro i20 sg22 H23 hi24 ⟨F34, st26, w27, w28, w29, t33, rfl, S25, O35, hl30, hl31, hl32, hL17⟩
      rw [rangeL_get0 hi24] at hL17
      have hk := hLs18 _ _ _ hL17
      obtain ⟨y14, he_⟩ : ∃ z_, z_ = 0 + (i20 : Int) := ⟨_, rfl⟩
      try rw [← he_] at hk
      rw [← he_]
      refine ⟨_, rfl, (.inl ⟨rfl, _, SqL.of (O35.at 0 rfl)⟩), _, rfl, (.inl ⟨rfl, _, SqL.of (O35.at 1 rfl)⟩), _, rfl, _, rfl, _, _, _, rfl, (.inl (O35.at 1 rfl)), hl31.len, _, _, _, _, _, rfl, (O35.pre1 2 rfl), hl32, wp_call hk (fun r36 er37 hk F38 H39 w41 g40 h42 hl43 => ?_) (fun n hn C H1 hC kp => hn C H1 hC (O35.kp1 kp 2 rfl))⟩
      have O44 := O35.call1 g40 2 rfl h42
      have S_ := g40.f
      have hl30 := hl30.mono S_
      have hl31 := hl31.mono S_
      have S25 := S25.trans S_
      obtain ⟨j45, y46, e47, c48, c49, e50, hk⟩ := wp_popI hk
      obtain ⟨w51, e52, r53⟩ := hl31.get e50
      refine ⟨_, _, _, _, _, rfl, rfl, (O44.at 1 rfl), c48, c49, (by rw [hl31.len]; exact e47), e52, ?_⟩
      obtain rfl := R.int_ r53
      have O55 := O44.set 1 (.lst (w28.eraseIdx j45)) rfl
      have hl56 : RL (a := Int) F38 (w28.eraseIdx j45) (st26.2.1.eraseIdx j45) := RL.erase j45 hl31
      obtain ⟨c57, hk⟩ := wp_appL hk
      refine ⟨_, _, _, rfl, rfl, (O55.at 0 rfl), (by rw [hl30.len]; exact c57), ?_⟩
      have O59 := O55.set 0 (.lst (w27 ++ [V.int y46])) rfl
      have hl60 : RL (a := Int) F38 (w27 ++ [V.int y46]) (st26.1 ++ [y46]) := RL.snoc hl30 R.int
      exact ⟨F38, ((st26.1 ++ [y46]), st26.2.1.eraseIdx j45, r36.2), (w27 ++ [V.int y46]), (w28.eraseIdx j45), w41, some (V.int y14), rfl, S25, O59, hl60, hl56, hl43, hk⟩
    rintro sg61 H62 ⟨F73, st64, w66, w67, w68, t72, rfl, S63, O74, hl69, hl70, hl71, hL65⟩
    rw [rangeL_end0] at hL65
    have hk := hLd19 _ hL65
    refine ⟨_, rfl, ?_⟩
    exact hk _ _ w68 O74.g (O74.at 2 rfl) hl71 _ _ z13 (O74.cf _ (List.mem_of_getElem? (i := 0) rfl)) (O74.at 0 rfl) hl69
abbrev s_law_tree : Stmt := top 40
theorem sc_law_tree : FnScope ["deck", "most", "far", "many", "order", "kind", "ties", "k", "at", "pair"] ["deck", "most", "far"] (defScope s_law_tree) := ⟨rfl, rfl, rfl, by decide +kernel, rfl, by decide +kernel, by decide +kernel⟩
def m_law_tree (x_deck : (List Int)) (x_most : Int) (x_far : Int) : M (((List Int) × (List (T3 Int Int Int))) × (List Int)) :=
m_law_take x_deck x_most >>= fun r1 =>
m_law_order r1.2 ((1 : Int) + r1.1) >>= fun r10 =>
m_law_take r10.2 (5 : Int) >>= fun r32 =>
chk (okR (1 : Int)) >>= fun _ =>
chk (okR ((1 : Int) + r1.1)) >>= fun _ =>
loopN (fun (y47 : Int) (st60 : (List Int) × (List (T3 Int Int Int))) =>
m_law_take st60.1 y47 >>= fun r70 =>
m_law_take r70.2 (3 : Int) >>= fun r79 =>
m_law_take r79.2 y47 >>= fun r88 =>
opt (atI ([r70.1, (y47 - (1 : Int)), (0 : Int), (if ((y47 - (1 : Int)) - r79.1) > (0 : Int) then ((y47 - (1 : Int)) - r79.1) else (0 : Int)), r88.1]) r32.1) >>= fun y110 =>
opt (atI r10.1 y47) >>= fun y120 =>
opt (atI r10.1 y110) >>= fun y130 =>
opt (atI (sortT ([y120, y130])) (0 : Int)) >>= fun y161 =>
opt (atI (sortT ([y120, y130])) (1 : Int)) >>= fun y171 =>
m_law_number r88.2 x_far >>= fun r176 =>
appL st60.2 (T3.mk y161 y171 r176.1) >>= fun _ =>
.ok (r176.2, (st60.2 ++ [(T3.mk y161 y171 r176.1)]))) (rangeL (1 : Int) ((1 : Int) + r1.1)) (r32.2, ([] : List (T3 Int Int Int))) >>= fun st199 =>
chk (okR ((1 : Int) + r1.1)) >>= fun _ =>
compS (fun (y210 : Int) (st228 : (List Int)) =>
m_law_number st228 x_far >>= fun r234 =>
.ok (some r234.1, r234.2)) (rangeL 0 ((1 : Int) + r1.1)) st199.1 >>= fun q256 =>
.ok ((q256.1, (sortT st199.2)), q256.2)
def sp_law_tree (mg : Str → Option Value) : Sp := fun vs H Q E => ∃ (F : Hp) (a_deck : Addr) (w_deck : (List V)) (x_deck : (List Int)) (x_most : Int) (x_far : Int), vs = [.ref a_deck, V.int x_most, V.int x_far] ∧ Pre F [(a_deck, .lst w_deck)] H ∧ RL (a := Int) F w_deck x_deck ∧
  wp (m_law_tree x_deck x_most x_far) (fun r => ∀ (F' H' : Hp) (w0 : (List V)), Gr [a_deck] F H F' H' → H' a_deck = some (.lst w0) → RL (a := Int) F' w0 r.2 → ∀ v : V, R (a := ((List Int) × (List (T3 Int Int Int)))) F' v r.1 → Q v H')
  (fun n => ∀ (C : Addr) (H' : Hp), mg (Str.ofString n) = some (.ref C) → Kp [a_deck] H H' → E (.ref C) none H')
set_option maxHeartbeats 2000000 in
theorem ok_law_tree (nb : Nb mg) (C_law_number : Ca P w K mg base "_law_number" 2 ["deck", "far"] (sp_law_number mg)) (C_law_order : Ca P w K mg base "_law_order" 2 ["deck", "many"] (sp_law_order mg)) (C_law_take : Ca P w K mg base "_law_take" 1 ["deck", "many"] (sp_law_take mg)) (D : Df K mg "_law_tree" "_law_tree" s_law_tree ["deck", "most", "far"]) : Ca P w K mg base "_law_tree" 3 ["deck", "most", "far"] (sp_law_tree mg) := by
  obtain ⟨fa_law_number, fd_law_number, G_law_number, M_law_number, K_law_number, B_law_number⟩ := C_law_number.ex
  obtain ⟨fa_law_order, fd_law_order, G_law_order, M_law_order, K_law_order, B_law_order⟩ := C_law_order.ex
  obtain ⟨fa_law_take, fd_law_take, G_law_take, M_law_take, K_law_take, B_law_take⟩ := C_law_take.ex
  refine Ca.mk' D sc_law_tree (fun vs H Q E h => ?_) (fun q_ f_ cdv A outer s H vs Q E hr h => ?_)
  · obtain ⟨F, _, _, _, _, _, rfl, _⟩ := h
    rfl
  · obtain ⟨F, a_deck, w_deck, x_deck, x_most, x_far, rfl, P0, f_deck, hk⟩ := h
    have nd := sc_law_tree.nd
    have hu64 := hr.units
    have hu128 := hu128_of hr
    have O := P0.start
    refine ⟨_, (pss_cons (ps_set (i := 3) nd rfl (Or.inl rfl) (pe_op op_add pe_int (pe_call G_law_take (hr.mono (by decide)) rfl M_law_take K_law_take B_law_take .nil (passes_call (takes_of rfl rfl rfl rfl) fun _ _ _ _ h => h) (pa_cons (pv 0) (pa_cons (pv 1) pa_nil)))))
  (pss_cons (ps_set (i := 4) nd rfl (Or.inl rfl) (pe_call G_law_order (hr.mono (by decide)) rfl M_law_order K_law_order B_law_order .nil (passes_call (takes_of rfl rfl rfl rfl) fun _ _ _ _ h => h) (pa_cons (pv 0) (pa_cons (pv 3) pa_nil))))
  (pss_cons (ps_set (i := 5) nd rfl (Or.inl rfl) (pe_call G_law_take (hr.mono (by decide)) rfl M_law_take K_law_take B_law_take .nil (passes_call (takes_of rfl rfl rfl rfl) fun _ _ _ _ h => h) (pa_cons (pv 0) (pa_cons pe_int pa_nil))))
  (pss_cons (ps_set (i := 6) nd rfl (Or.inl rfl) (pe_lst pa_nil))
  (pss_cons (ps_for (passes_of rfl) rfl (pi_range2 rfl nb.b_range (pa_cons pe_int (pa_cons (pv 3) pa_nil))) (pg_name (i := 7) nd rfl (Or.inl rfl)) (pss_cons (ps_set (i := 8) nd rfl (Or.inl rfl) (pe_ix (ixListK (K := K) rfl) (pe_lst (pa_cons (pe_call G_law_take (hr.mono (by decide)) rfl M_law_take K_law_take B_law_take .nil (passes_call (takes_of rfl rfl rfl rfl) fun _ _ _ _ h => h) (pa_cons (pv 0) (pa_cons (pv 7) pa_nil))) (pa_cons (pe_op op_sub (pv 7) pe_int) (pa_cons pe_int (pa_cons (pe_callB (call_max2 rfl) (by rfl) nb.b_max (by decide +kernel) (pa_cons pe_int (pa_cons (pe_op op_sub (pe_op op_sub (pv 7) pe_int) (pe_call G_law_take (hr.mono (by decide)) rfl M_law_take K_law_take B_law_take .nil (passes_call (takes_of rfl rfl rfl rfl) fun _ _ _ _ h => h) (pa_cons (pv 0) (pa_cons pe_int pa_nil)))) pa_nil))) (pa_cons (pe_call G_law_take (hr.mono (by decide)) rfl M_law_take K_law_take B_law_take .nil (passes_call (takes_of rfl rfl rfl rfl) fun _ _ _ _ h => h) (pa_cons (pv 0) (pa_cons (pv 7) pa_nil))) pa_nil)))))) (pv 5) (fun _ _ => rfl)))
  (pss_cons (ps_set (i := 9) nd rfl (Or.inl rfl) (pe_callB (cr_sortedT Int hu128) (by rfl) nb.b_sorted (by decide +kernel) (pa_cons (pe_lst (pa_cons (pe_ix (ixListK (K := K) rfl) (pv 4) (pv 7) (fun _ _ => rfl)) (pa_cons (pe_ix (ixListK (K := K) rfl) (pv 4) (pv 8) (fun _ _ => rfl)) pa_nil))) pa_nil)))
  (pss_one (ps_expr (pe_bm PySem.F.plainAttrs_list PySem.F.slot_list_append PySem.F.type_list_append mt_append (pv 6) (pa_cons (pe_tup (pa_cons (pe_ix (ixListK (K := K) rfl) (pv 9) pe_int (fun _ _ => rfl)) (pa_cons (pe_ix (ixListK (K := K) rfl) (pv 9) pe_int (fun _ _ => rfl)) (pa_cons (pe_call G_law_number (hr.mono (by decide)) rfl M_law_number K_law_number B_law_number .nil (passes_call (takes_of rfl rfl rfl rfl) fun _ _ _ _ h => h) (pa_cons (pv 0) (pa_cons (pv 2) pa_nil))) pa_nil)))) pa_nil)))))))
  (pss_one (ps_ret (pe_tup (pa_cons (pe_lc (own := [("k", 7)]) (g := gName 7) (tt := _) rfl nd (pi_range1 rfl nb.b_range (pa_cons (pv 3) pa_nil)) (blkOk_by (own := [("k", 7)]) (N := ["deck", "most", "far", "many", "order", "kind", "ties", "k", "at", "pair"]) (sc := defScope s_law_tree) (by decide +kernel)) (fun _ _ _ _ _ => (pg_name (i := 7) nd rfl (Or.inl rfl))) (fun _ _ _ _ _ => pts_nil) (fun _ _ _ _ _ => (pe_call G_law_number (hr.mono (by decide)) rfl M_law_number K_law_number B_law_number .nil passL (pa_cons (pv 0) (pa_cons (pv 2) pa_nil))))) (pa_cons (pe_callB (cr_sortedT (T3 Int Int Int) hu128) (by rfl) nb.b_sorted (by decide +kernel) (pa_cons (pv 6) pa_nil)) pa_nil)))))))))), ?_⟩
    refine ⟨_, rfl, _, rfl, _, _, _, _, _, rfl, (O.pre1 0 rfl), f_deck, wp_call hk (fun r1 er2 hk F3 H4 w6 g5 h7 hl8 => ?_) (fun n hn C H1 hC kp => hn C H1 hC (O.kp1 kp 0 rfl))⟩
    have O9 := O.call1 g5 0 rfl h7
    have S_ := g5.f
    refine ⟨_, _, rfl, rfl, _, rfl, _, rfl, _, _, _, _, _, rfl, (O9.pre1 0 rfl), hl8, wp_call hk (fun r10 er11 hk F12 H13 w15 g14 h16 hl17 p18 w19 hn20 hf21 h22 hl23 => ?_) (fun n hn C H1 hC kp => hn C H1 hC (O9.kp1 kp 0 rfl))⟩
    have O24 := O9.call1 g14 0 rfl h16
    have S_ := g14.f
    have O25 := O9.got O24 rfl hn20 hf21 h22
    have z26 := O9.was hn20
    obtain ⟨F27, O28, S29, h30⟩ := O25.frzE 0 rfl z26
    have hl17 := hl17.mono S29
    have hl23 := hl23.mono S29
    have h31 := R.lst (a := Int) h30 hl23
    refine ⟨_, rfl, _, _, _, _, _, rfl, (O28.pre1 0 rfl), hl17, wp_call hk (fun r32 er33 hk F34 H35 w37 g36 h38 hl39 => ?_) (fun n hn C H1 hC kp => hn C H1 hC (O28.kp1 kp 0 rfl))⟩
    have O40 := O28.call1 g36 0 rfl h38
    have S_ := g36.f
    have h31 := h31.mono S_
    refine ⟨(by show 0 ≤ sizeLine; decide), fun p42 hp43 => ?_⟩
    have hl45 : RL (a := (T3 Int Int Int)) F34 ([]) ([] : List (T3 Int Int Int)) := RL.nil
    have z46 := O40.was hp43
    have O44 := O40.new (o := .lst ([])) hp43
    obtain ⟨c48, hk⟩ := wp_chk hk
    obtain ⟨c49, hk⟩ := wp_chk hk
    obtain ⟨L50, hL51, hLs52, hLd53⟩ := loopN_L hk
    refine ⟨_, rfl, _, _, rfl, ⟨c48.lo, c48.hi, c49.lo, c49.hi⟩, ?_⟩
    refine for_range (lo := (1 : Int)) (n := (((1 : Int) + r1.1) - (1 : Int)).toNat) (fun i σ H => ∃ (F_ : Hp) (st : (List Int) × (List (T3 Int Int Int))) (w_0 : (List V)) (w_1 : (List V)) (t_0 : Option V) (t_1 : Option V) (t_2 : Option V), σ = [some (V.ref a_deck), some (V.int x_most), some (V.int x_far), some (V.int ((1 : Int) + r1.1)), some (V.ref p18), some (V.int r32.1), some (V.ref p42), t_0, t_1, t_2] ∧ Same F34 F_ ∧ Ow _ F_ [(p42, .lst w_1), (a_deck, .lst w_0)] H ∧ RL (a := Int) F_ w_0 st.1 ∧ RL (a := (T3 Int Int Int)) F_ w_1 st.2 ∧ L50 (List.drop i (rangeL (1 : Int) ((1 : Int) + r1.1))) st) ⟨F34, (r32.2, ([] : List (T3 Int Int Int))), w37, [], none, none, none, rfl, Same.refl _, O44, hl39, hl45, hL51⟩ ?_ ?_
    · rintro i54 sg56 H57 hi58 ⟨F68, st60, w61, w62, t65, t66, t67, rfl, S59, O69, hl63, hl64, hL51⟩
      have h31 := h31.mono S59
      rw [rangeL_get hi58] at hL51
      have hk := hLs52 _ _ _ hL51
      obtain ⟨y47, he_⟩ : ∃ z_, z_ = (1 : Int) + (i54 : Int) := ⟨_, rfl⟩
      try rw [← he_] at hk
      rw [← he_]
      refine ⟨_, rfl, _, rfl, _, _, _, _, _, rfl, (O69.pre1 1 rfl), hl63, wp_call hk (fun r70 er71 hk F72 H73 w75 g74 h76 hl77 => ?_) (fun n hn C H1 hC kp => hn C H1 hC (O69.kp1 kp 1 rfl))⟩
      have O78 := O69.call1 g74 1 rfl h76
      have S_ := g74.f
      have h31 := h31.mono S_
      have hl64 := hl64.mono S_
      have S59 := S59.trans S_
      refine ⟨_, rfl, _, _, rfl, rfl, _, rfl, _, _, rfl, rfl, _, rfl, _, _, _, _, _, rfl, (O78.pre1 1 rfl), hl77, wp_call hk (fun r79 er80 hk F81 H82 w84 g83 h85 hl86 => ?_) (fun n hn C H1 hC kp => hn C H1 hC (O78.kp1 kp 1 rfl))⟩
      have O87 := O78.call1 g83 1 rfl h85
      have S_ := g83.f
      have h31 := h31.mono S_
      have hl64 := hl64.mono S_
      have S59 := S59.trans S_
      refine ⟨_, _, rfl, rfl, _, _, rfl, _, rfl, _, rfl, _, _, _, _, _, rfl, (O87.pre1 1 rfl), hl86, wp_call hk (fun r88 er89 hk F90 H91 w93 g92 h94 hl95 => ?_) (fun n hn C H1 hC kp => hn C H1 hC (O87.kp1 kp 1 rfl))⟩
      have O96 := O87.call1 g92 1 rfl h94
      have S_ := g92.f
      have h31 := h31.mono S_
      have hl64 := hl64.mono S_
      have S59 := S59.trans S_
      refine ⟨(by show 5 ≤ sizeLine; decide), fun p97 hp98 => ?_⟩
      have hl104 : RL (a := Int) F90 ([V.int r70.1, V.int (y47 - (1 : Int)), V.int (0 : Int), V.int (if ((y47 - (1 : Int)) - r79.1) > (0 : Int) then ((y47 - (1 : Int)) - r79.1) else (0 : Int)), V.int r88.1]) ([r70.1, (y47 - (1 : Int)), (0 : Int), (if ((y47 - (1 : Int)) - r79.1) > (0 : Int) then ((y47 - (1 : Int)) - r79.1) else (0 : Int)), r88.1]) := RL.cons R.int (RL.cons R.int (RL.cons R.int (RL.cons R.int (RL.cons R.int RL.nil))))
      obtain ⟨F99, O100, S101, h102⟩ := O96.putE hp98 (.lst ([V.int r70.1, V.int (y47 - (1 : Int)), V.int (0 : Int), V.int (if ((y47 - (1 : Int)) - r79.1) > (0 : Int) then ((y47 - (1 : Int)) - r79.1) else (0 : Int)), V.int r88.1]))
      have h31 := h31.mono S101
      have hl64 := hl64.mono S101
      have S59 := S59.trans S101
      have hl95 := hl95.mono S101
      have hl104 := hl104.mono S101
      have h103 := R.lst (a := Int) h102 hl104
      obtain ⟨p105, w106, e107, h108, hl109⟩ := R.lst_ h103
      cases e107
      obtain ⟨y110, e111, hk⟩ := wp_opt hk
      obtain ⟨w112, e113, r114⟩ := hl109.atI e111
      obtain rfl := R.int_ r114
      obtain ⟨p115, w116, e117, h118, hl119⟩ := R.lst_ h31
      cases e117
      obtain ⟨y120, e121, hk⟩ := wp_opt hk
      obtain ⟨w122, e123, r124⟩ := hl119.atI e121
      obtain rfl := R.int_ r124
      obtain ⟨p125, w126, e127, h128, hl129⟩ := R.lst_ h31
      cases e127
      obtain ⟨y130, e131, hk⟩ := wp_opt hk
      obtain ⟨w132, e133, r134⟩ := hl129.atI e131
      obtain rfl := R.int_ r134
      refine ⟨_, rfl, _, _, _, _, rfl, rfl, (SqLF O100.s h108), e113, _, rfl, _, rfl, _, _, _, _, rfl, rfl, (SqLF O100.s h118), e123, _, rfl, _, rfl, _, _, _, _, rfl, rfl, (SqLF O100.s h128), e133, (by show 2 ≤ sizeLine; decide), fun p135 hp136 => ?_⟩
      have hl142 : RL (a := Int) F99 ([V.int y120, V.int y130]) ([y120, y130]) := RL.cons R.int (RL.cons R.int RL.nil)
      obtain ⟨F137, O138, S139, h140⟩ := O100.putE hp136 (.lst ([V.int y120, V.int y130]))
      have h31 := h31.mono S139
      have hl64 := hl64.mono S139
      have S59 := S59.trans S139
      have hl95 := hl95.mono S139
      have h103 := h103.mono S139
      have h108 := S139 _ _ h108
      have hl109 := hl109.mono S139
      have h118 := S139 _ _ h118
      have hl119 := hl119.mono S139
      have h128 := S139 _ _ h128
      have hl129 := hl129.mono S139
      have hl142 := hl142.mono S139
      have h141 := R.lst (a := Int) h140 hl142
      obtain ⟨p143, w144, e145, h146, hl147⟩ := R.lst_ h141
      cases e145
      refine ⟨_, _, _, rfl, (O138.s _ _ h146), (RL.mono hl147 O138.s), fun p148 hp149 => ?_⟩
      have hl155 : RL (a := Int) F137 (sortV w144 ([y120, y130])) (sortT ([y120, y130])) := (RL.sorted hl147)
      obtain ⟨F150, O151, S152, h153⟩ := O138.putE hp149 (.lst (sortV w144 ([y120, y130])))
      have h31 := h31.mono S152
      have hl64 := hl64.mono S152
      have S59 := S59.trans S152
      have hl95 := hl95.mono S152
      have h103 := h103.mono S152
      have h108 := S152 _ _ h108
      have hl109 := hl109.mono S152
      have h118 := S152 _ _ h118
      have hl119 := hl119.mono S152
      have h128 := S152 _ _ h128
      have hl129 := hl129.mono S152
      have h141 := h141.mono S152
      have h146 := S152 _ _ h146
      have hl147 := hl147.mono S152
      have hl155 := hl155.mono S152
      have h154 := R.lst (a := Int) h153 hl155
      obtain ⟨p156, w157, e158, h159, hl160⟩ := R.lst_ h154
      cases e158
      obtain ⟨y161, e162, hk⟩ := wp_opt hk
      obtain ⟨w163, e164, r165⟩ := hl160.atI e162
      obtain rfl := R.int_ r165
      obtain ⟨p166, w167, e168, h169, hl170⟩ := R.lst_ h154
      cases e168
      obtain ⟨y171, e172, hk⟩ := wp_opt hk
      obtain ⟨w173, e174, r175⟩ := hl170.atI e172
      obtain rfl := R.int_ r175
      refine ⟨_, rfl, (.inl ⟨rfl, _, SqL.of (O151.at 0 rfl)⟩), _, rfl, _, _, _, _, rfl, rfl, (SqLF O151.s h159), e164, _, rfl, _, _, _, _, rfl, rfl, (SqLF O151.s h169), e174, _, rfl, _, rfl, _, _, _, _, _, rfl, (O151.pre1 1 rfl), hl95, wp_call hk (fun r176 er177 hk F178 H179 w181 g180 h182 hl183 => ?_) (fun n hn C H1 hC kp => hn C H1 hC (O151.kp1 kp 1 rfl))⟩
      have O184 := O151.call1 g180 1 rfl h182
      have S_ := g180.f
      have h31 := h31.mono S_
      have hl64 := hl64.mono S_
      have S59 := S59.trans S_
      have h103 := h103.mono S_
      have h108 := S_ _ _ h108
      have hl109 := hl109.mono S_
      have h118 := S_ _ _ h118
      have hl119 := hl119.mono S_
      have h128 := S_ _ _ h128
      have hl129 := hl129.mono S_
      have h141 := h141.mono S_
      have h146 := S_ _ _ h146
      have hl147 := hl147.mono S_
      have h154 := h154.mono S_
      have h159 := S_ _ _ h159
      have hl160 := hl160.mono S_
      have h169 := S_ _ _ h169
      have hl170 := hl170.mono S_
      refine ⟨(by show 3 ≤ sizeLine; decide), fun p185 hp186 => ?_⟩
      obtain ⟨F187, O188, S189, h190⟩ := O184.putE hp186 (.tup [V.int y161, V.int y171, V.int r176.1])
      have h31 := h31.mono S189
      have hl64 := hl64.mono S189
      have S59 := S59.trans S189
      have h103 := h103.mono S189
      have h108 := S189 _ _ h108
      have hl109 := hl109.mono S189
      have h118 := S189 _ _ h118
      have hl119 := hl119.mono S189
      have h128 := S189 _ _ h128
      have hl129 := hl129.mono S189
      have h141 := h141.mono S189
      have h146 := S189 _ _ h146
      have hl147 := hl147.mono S189
      have h154 := h154.mono S189
      have h159 := S189 _ _ h159
      have hl160 := hl160.mono S189
      have h169 := S189 _ _ h169
      have hl170 := hl170.mono S189
      have hl183 := hl183.mono S189
      have h191 : R (a := (T3 Int Int Int)) F187 (.ref p185) (T3.mk y161 y171 r176.1) := R.t3 h190 R.int R.int R.int
      obtain ⟨c192, hk⟩ := wp_appL hk
      refine ⟨_, _, _, rfl, rfl, (O188.at 0 rfl), (by rw [hl64.len]; exact c192), ?_⟩
      have O194 := O188.set 0 (.lst (w62 ++ [V.ref p185])) rfl
      have hl195 : RL (a := (T3 Int Int Int)) F187 (w62 ++ [V.ref p185]) (st60.2 ++ [(T3.mk y161 y171 r176.1)]) := RL.snoc hl64 h191
      exact ⟨F187, (r176.2, (st60.2 ++ [(T3.mk y161 y171 r176.1)])), w181, (w62 ++ [V.ref p185]), some (V.int y47), some (V.int y110), some (V.ref p148), rfl, S59, O194, hl183, hl195, hk⟩
    rintro sg196 H197 ⟨F208, st199, w201, w202, t205, t206, t207, rfl, S198, O209, hl203, hl204, hL200⟩
    rw [rangeL_end] at hL200
    have hk := hLd53 _ hL200
    have h31 := h31.mono S198
    obtain ⟨c211, hk⟩ := wp_chk hk
    obtain ⟨c216, L212, hL213, hLs214, hLd215⟩ := compS_L hk
    refine ⟨_, rfl, _, rfl, c211.lo, c211.hi, fun p217 hp218 => ?_⟩
    have z243 := O209.was hp218
    refine lc_range (lo := 0) (n := (((1 : Int) + r1.1)).toNat) (fun i H => ∃ (F_ : Hp) (st : (List Int)) (acc : List Int) (wa : List V) (w_0 : (List V)), Same F208 F_ ∧ Ow _ F_ [(p217, .lst wa), (p42, .lst w202), (a_deck, .lst w_0)] H ∧ RL F_ wa acc ∧ RL (a := Int) F_ w_0 st ∧ wa.length ≤ i ∧ L212 (List.drop i (rangeL 0 ((1 : Int) + r1.1))) acc st) ⟨F208, st199.1, [], [], w201, Same.refl _, O209.new hp218, RL.nil, hl203, Nat.zero_le _, hL213⟩ ?_ ?_
    · rintro i219 H221 hi222 ⟨F227, st228, acc224, wa225, w230, S229, O233, hl232, hl231, la226, hL213⟩
      have h31 := h31.mono S229
      have hl204 := hl204.mono S229
      rw [rangeL_get0 hi222] at hL213
      have hk := hLs214 _ _ _ _ hL213
      obtain ⟨y210, he_⟩ : ∃ z_, z_ = 0 + (i219 : Int) := ⟨_, rfl⟩
      try rw [← he_] at hk
      rw [← he_]
      refine ⟨rfl, ?_⟩
      refine ⟨_, rfl, _, rfl, _, _, _, _, _, rfl, (O233.pre1 2 rfl), hl231, wp_call hk (fun r234 er235 hk F236 H237 w239 g238 h240 hl241 => ?_) (fun n hn => hn.elim)⟩
      have O242 := O233.call1 g238 2 rfl h240
      have S_ := g238.f
      have h31 := h31.mono S_
      have hl204 := hl204.mono S_
      have S229 := S229.trans S_
      have hl232 := hl232.mono S_
      refine ⟨_, (O242.at 0 rfl), (comp_lenR la226 hi222 (by rw [Int.sub_zero]) c216), ?_⟩
      exact ⟨F236, r234.2, acc224 ++ [r234.1], wa225 ++ [V.int r234.1], w239, S229, O242.set 0 (.lst (wa225 ++ [V.int r234.1])) rfl, RL.snoc hl232 R.int, hl241, by rw [List.length_append]; exact Nat.succ_le_succ la226, hk⟩
    rintro H244 ⟨F245, st246, acc247, wa248, w254, S249, O250, hl251, hl255, la252, hL253⟩
    rw [rangeL_end0] at hL253
    have hk := hLd215 _ _ hL253
    have h31 := h31.mono S249
    have hl204 := hl204.mono S249
    obtain ⟨F257, O258, S259, h260⟩ := O250.frzE 0 rfl z243
    have h31 := h31.mono S259
    have hl204 := hl204.mono S259
    have hl255 := hl255.mono S259
    have hl251 := hl251.mono S259
    have h261 := R.lst (a := Int) h260 hl251
    refine ⟨_, rfl, _, _, _, rfl, (O258.at 0 rfl), (RL.mono hl204 O258.s), fun p262 hp263 => ?_⟩
    have hl269 : RL (a := (T3 Int Int Int)) F257 (sortV w202 st199.2) (sortT st199.2) := (RL.sorted hl204)
    obtain ⟨F264, O265, S266, h267⟩ := O258.putE hp263 (.lst (sortV w202 st199.2))
    have h31 := h31.mono S266
    have hl204 := hl204.mono S266
    have hl255 := hl255.mono S266
    have h261 := h261.mono S266
    have hl269 := hl269.mono S266
    have h268 := R.lst (a := (T3 Int Int Int)) h267 hl269
    refine ⟨(by show 2 ≤ sizeLine; decide), fun p270 hp271 => ?_⟩
    obtain ⟨F272, O273, S274, h275⟩ := O265.putE hp271 (.tup [V.ref p217, V.ref p262])
    have h31 := h31.mono S274
    have hl204 := hl204.mono S274
    have hl255 := hl255.mono S274
    have h261 := h261.mono S274
    have h268 := h268.mono S274
    have h276 : R (a := ((List Int) × (List (T3 Int Int Int)))) F272 (.ref p270) (acc247, (sortT st199.2)) := R.t2 h275 h261 h268
    exact hk _ _ w254 O273.g (O273.at 1 rfl) hl255 _ h276
abbrev s_law_copied : Stmt := top 41
theorem sc_law_copied : FnScope ["tree"] ["tree"] (defScope s_law_copied) := ⟨rfl, rfl, rfl, by decide +kernel, rfl, by decide +kernel, by decide +kernel⟩
def m_law_copied (x_tree : ((List Int) × (List (T3 Int Int Int)))) : M (((List Int) × (List (T3 Int Int Int)))) :=
.ok (x_tree.1, x_tree.2)
def sp_law_copied (mg : Str → Option Value) : Sp := fun vs H Q E => ∃ (F : Hp) (v_tree : V) (x_tree : ((List Int) × (List (T3 Int Int Int)))), vs = [v_tree] ∧ Pre F [] H ∧ R (a := ((List Int) × (List (T3 Int Int Int)))) F v_tree x_tree ∧
  wp (m_law_copied x_tree) (fun r => ∀ (F' H' : Hp), Gr [] F H F' H' → ∀ v : V, R (a := ((List Int) × (List (T3 Int Int Int)))) F' v r → Q v H')
  (fun n => ∀ (C : Addr) (H' : Hp), mg (Str.ofString n) = some (.ref C) → Kp [] H H' → E (.ref C) none H')
set_option maxHeartbeats 2000000 in
theorem ok_law_copied (nb : Nb mg) (D : Df K mg "_law_copied" "_law_copied" s_law_copied ["tree"]) : Ca P w K mg base "_law_copied" 1 ["tree"] (sp_law_copied mg) := by
  refine Ca.mk' D sc_law_copied (fun vs H Q E h => ?_) (fun q_ f_ cdv A outer s H vs Q E hr h => ?_)
  · obtain ⟨F, _, _, rfl, _⟩ := h
    rfl
  · obtain ⟨F, v_tree, x_tree, rfl, P0, f_tree, hk⟩ := h
    have nd := sc_law_copied.nd
    have hu64 := hr.units
    have hu128 := hu128_of hr
    have O := P0.start
    refine ⟨_, (pss_one (ps_ret (pe_tup (pa_cons (pe_callTy (listOfK (K := K) rfl) (by rfl) nb.b_list (by decide +kernel) (pa_cons (pe_ix (ixTupK (K := K) rfl) (pv 0) pe_int (fun _ _ => rfl)) pa_nil)) (pa_cons (pe_callTy (listOfK (K := K) rfl) (by rfl) nb.b_list (by decide +kernel) (pa_cons (pe_ix (ixTupK (K := K) rfl) (pv 0) pe_int (fun _ _ => rfl)) pa_nil)) pa_nil))))), ?_⟩
    obtain ⟨p1, v4, v5, e2, h3, r6, r7⟩ := R.t2_ f_tree
    cases e2
    obtain ⟨p8, w9, e10, h11, hl12⟩ := R.lst_ r6
    cases e10
    refine ⟨_, rfl, _, _, _, _, rfl, rfl, (SqTF O.s h3), rfl, _, _, rfl, (.inl (SqLF O.s h11)), fun p13 hp14 => ?_⟩
    have hl20 : RL (a := Int) F w9 x_tree.1 := hl12
    obtain ⟨F15, O16, S17, h18⟩ := O.putE hp14 (.lst w9)
    have f_tree := f_tree.mono S17
    have h3 := S17 _ _ h3
    have r6 := r6.mono S17
    have r7 := r7.mono S17
    have h11 := S17 _ _ h11
    have hl12 := hl12.mono S17
    have hl20 := hl20.mono S17
    have h19 := R.lst (a := Int) h18 hl20
    obtain ⟨p21, w22, e23, h24, hl25⟩ := R.lst_ r7
    cases e23
    refine ⟨_, rfl, _, _, _, _, rfl, rfl, (SqTF O16.s h3), rfl, _, _, rfl, (.inl (SqLF O16.s h24)), fun p26 hp27 => ?_⟩
    have hl33 : RL (a := (T3 Int Int Int)) F15 w22 x_tree.2 := hl25
    obtain ⟨F28, O29, S30, h31⟩ := O16.putE hp27 (.lst w22)
    have f_tree := f_tree.mono S30
    have h3 := S30 _ _ h3
    have r6 := r6.mono S30
    have r7 := r7.mono S30
    have h11 := S30 _ _ h11
    have hl12 := hl12.mono S30
    have h19 := h19.mono S30
    have h24 := S30 _ _ h24
    have hl25 := hl25.mono S30
    have hl33 := hl33.mono S30
    have h32 := R.lst (a := (T3 Int Int Int)) h31 hl33
    refine ⟨(by show 2 ≤ sizeLine; decide), fun p34 hp35 => ?_⟩
    obtain ⟨F36, O37, S38, h39⟩ := O29.putE hp35 (.tup [V.ref p13, V.ref p26])
    have f_tree := f_tree.mono S38
    have h3 := S38 _ _ h3
    have r6 := r6.mono S38
    have r7 := r7.mono S38
    have h11 := S38 _ _ h11
    have hl12 := hl12.mono S38
    have h19 := h19.mono S38
    have h24 := S38 _ _ h24
    have hl25 := hl25.mono S38
    have h32 := h32.mono S38
    have h40 : R (a := ((List Int) × (List (T3 Int Int Int)))) F36 (.ref p34) (x_tree.1, x_tree.2) := R.t2 h39 h19 h32
    exact hk _ _  O37.g  _ h40
abbrev s_law_leaf : Stmt := top 42
theorem sc_law_leaf : FnScope ["deck", "leaves", "many", "way"] ["deck", "leaves", "many"] (defScope s_law_leaf) := ⟨rfl, rfl, rfl, by decide +kernel, rfl, by decide +kernel, by decide +kernel⟩
def m_law_leaf (x_deck : (List Int)) (x_leaves : (List Str)) (x_many : Int) : M (Sm × (List Int)) :=
m_law_take x_deck ((1 : Int) + (x_leaves.length : Int)) >>= fun r6 =>
if r6.1 = (0 : Int) then (
m_law_take r6.2 (19 : Int) >>= fun r16 =>
.ok ((Sm.num (("number" : Str), (r16.1 - (9 : Int))).1 (("number" : Str), (r16.1 - (9 : Int))).2), r16.2))
else (
opt (atI x_leaves (r6.1 - (1 : Int))) >>= fun y37 =>
if y37 ∈ ([(("so" : Str), ("more" : Str)).1, (("so" : Str), ("more" : Str)).2]) then (
opt (atI x_leaves (r6.1 - (1 : Int))) >>= fun y62 =>
m_law_take r6.2 x_many >>= fun r67 =>
.ok ((Sm.num (y62, r67.1).1 (y62, r67.1).2), r67.2))
else (
opt (atI x_leaves (r6.1 - (1 : Int))) >>= fun y88 =>
.ok ((Sm.nam y88), r6.2)))
def sp_law_leaf (mg : Str → Option Value) : Sp := fun vs H Q E => ∃ (F : Hp) (a_deck : Addr) (w_deck : (List V)) (x_deck : (List Int)) (v_leaves : V) (x_leaves : (List Str)) (x_many : Int), vs = [.ref a_deck, v_leaves, V.int x_many] ∧ Pre F [(a_deck, .lst w_deck)] H ∧ RL (a := Int) F w_deck x_deck ∧ R (a := (List Str)) F v_leaves x_leaves ∧
  wp (m_law_leaf x_deck x_leaves x_many) (fun r => ∀ (F' H' : Hp) (w0 : (List V)), Gr [a_deck] F H F' H' → H' a_deck = some (.lst w0) → RL (a := Int) F' w0 r.2 → ∀ v : V, R (a := Sm) F' v r.1 → Q v H')
  (fun n => ∀ (C : Addr) (H' : Hp), mg (Str.ofString n) = some (.ref C) → Kp [a_deck] H H' → E (.ref C) none H')
set_option maxHeartbeats 2000000 in
theorem ok_law_leaf (nb : Nb mg) (C_law_take : Ca P w K mg base "_law_take" 1 ["deck", "many"] (sp_law_take mg)) (D : Df K mg "_law_leaf" "_law_leaf" s_law_leaf ["deck", "leaves", "many"]) : Ca P w K mg base "_law_leaf" 2 ["deck", "leaves", "many"] (sp_law_leaf mg) := by
  obtain ⟨fa_law_take, fd_law_take, G_law_take, M_law_take, K_law_take, B_law_take⟩ := C_law_take.ex
  refine Ca.mk' D sc_law_leaf (fun vs H Q E h => ?_) (fun q_ f_ cdv A outer s H vs Q E hr h => ?_)
  · obtain ⟨F, _, _, _, _, _, _, rfl, _⟩ := h
    rfl
  · obtain ⟨F, a_deck, w_deck, x_deck, v_leaves, x_leaves, x_many, rfl, P0, f_deck, f_leaves, hk⟩ := h
    have nd := sc_law_leaf.nd
    have hu64 := hr.units
    have hu128 := hu128_of hr
    have O := P0.start
    refine ⟨_, (pss_cons (ps_set (i := 3) nd rfl (Or.inl rfl) (pe_call G_law_take (hr.mono (by decide)) rfl M_law_take K_law_take B_law_take .nil (passes_call (takes_of rfl rfl rfl rfl) fun _ _ _ _ h => h) (pa_cons (pv 0) (pa_cons (pe_op op_add pe_int (pe_callB call_lenT (by rfl) nb.b_len PySem.boot_len (pa_cons (pv 1) pa_nil))) pa_nil))))
  (pss_cons (ps_if (pt_cmpR (op_eqT Int hu64) (pv 3) pe_int (nomark _)) (pss_one (ps_ret (pe_tup (pa_cons pe_str (pa_cons (pe_op op_sub (pe_call G_law_take (hr.mono (by decide)) rfl M_law_take K_law_take B_law_take .nil (passes_call (takes_of rfl rfl rfl rfl) fun _ _ _ _ h => h) (pa_cons (pv 0) (pa_cons pe_int pa_nil))) pe_int) pa_nil))))) pss_nil)
  (pss_cons (ps_if (pt_cmpR (op_inT Str hu64) (pe_ix (ixListK (K := K) rfl) (pv 1) (pe_op op_sub (pv 3) pe_int) (fun _ _ => rfl)) (pe_tup (pa_cons pe_str (pa_cons pe_str pa_nil))) rfl) (pss_one (ps_ret (pe_tup (pa_cons (pe_ix (ixListK (K := K) rfl) (pv 1) (pe_op op_sub (pv 3) pe_int) (fun _ _ => rfl)) (pa_cons (pe_call G_law_take (hr.mono (by decide)) rfl M_law_take K_law_take B_law_take .nil (passes_call (takes_of rfl rfl rfl rfl) fun _ _ _ _ h => h) (pa_cons (pv 0) (pa_cons (pv 2) pa_nil))) pa_nil))))) pss_nil)
  (pss_one (ps_ret (pe_tup (pa_cons (pe_ix (ixListK (K := K) rfl) (pv 1) (pe_op op_sub (pv 3) pe_int) (fun _ _ => rfl)) pa_nil))))))), ?_⟩
    obtain ⟨p1, w2, e3, h4, hl5⟩ := R.lst_ f_leaves
    cases e3
    refine ⟨_, rfl, _, rfl, _, _, _, rfl, (.inl (O.s _ _ h4)), hl5.len, _, _, rfl, rfl, _, _, _, _, _, rfl, (O.pre1 0 rfl), f_deck, wp_call hk (fun r6 er7 hk F8 H9 w11 g10 h12 hl13 => ?_) (fun n hn C H1 hC kp => hn C H1 hC (O.kp1 kp 0 rfl))⟩
    have O14 := O.call1 g10 0 rfl h12
    have S_ := g10.f
    have f_leaves := f_leaves.mono S_
    have h4 := S_ _ _ h4
    have hl5 := hl5.mono S_
    refine ⟨_, rfl, _, _, R.int, R.int, _, rfl, ?_⟩
    refine iteD (fun q15 => ?_) (fun q15 => ?_)
    · have hk := wp_if hk q15
      refine ⟨_, rfl, _, _, _, _, _, rfl, (O14.pre1 0 rfl), hl13, wp_call hk (fun r16 er17 hk F18 H19 w21 g20 h22 hl23 => ?_) (fun n hn C H1 hC kp => hn C H1 hC (O14.kp1 kp 0 rfl))⟩
      have O24 := O14.call1 g20 0 rfl h22
      have S_ := g20.f
      have f_leaves := f_leaves.mono S_
      have h4 := S_ _ _ h4
      have hl5 := hl5.mono S_
      refine ⟨_, _, rfl, rfl, (by show 2 ≤ sizeLine; decide), fun p25 hp26 => ?_⟩
      obtain ⟨F27, O28, S29, h30⟩ := O24.putE hp26 (.tup [V.str ("number" : Str), V.int (r16.1 - (9 : Int))])
      have f_leaves := f_leaves.mono S29
      have h4 := S29 _ _ h4
      have hl5 := hl5.mono S29
      have hl23 := hl23.mono S29
      have h31 : R (a := (Str × Int)) F27 (.ref p25) (("number" : Str), (r16.1 - (9 : Int))) := R.t2 h30 R.str R.int
      exact hk _ _ w21 O28.g (O28.at 0 rfl) hl23 _ (R.of_num h31)
    · have hk := wp_el hk q15
      obtain ⟨p32, w33, e34, h35, hl36⟩ := R.lst_ f_leaves
      cases e34
      obtain ⟨y37, e38, hk⟩ := wp_opt hk
      obtain ⟨w39, e40, r41⟩ := hl36.atI e38
      obtain rfl := R.str_ r41
      refine ⟨_, rfl, _, rfl, _, _, rfl, rfl, _, _, _, _, rfl, rfl, (SqLF O14.s h35), e40, (by show 2 ≤ sizeLine; decide), fun p42 hp43 => ?_⟩
      obtain ⟨F44, O45, S46, h47⟩ := O14.putE hp43 (.tup [V.str ("so" : Str), V.str ("more" : Str)])
      have f_leaves := f_leaves.mono S46
      have h4 := S46 _ _ h4
      have hl5 := hl5.mono S46
      have hl13 := hl13.mono S46
      have h35 := S46 _ _ h35
      have hl36 := hl36.mono S46
      have h48 : R (a := (Str × Str)) F44 (.ref p42) (("so" : Str), ("more" : Str)) := R.t2 h47 R.str R.str
      obtain ⟨p49, v52, v53, e50, h51, r54, r55⟩ := R.t2_ h48
      cases e50
      obtain rfl := R.str_ r54
      obtain rfl := R.str_ r55
      refine ⟨_, _, _, _, R.str, rfl, (.inr (O45.s _ _ h51)), (RL.mono (RL.cons R.str (RL.cons R.str RL.nil)) O45.s), _, rfl, ?_⟩
      refine iteD (fun q56 => ?_) (fun q56 => ?_)
      · have hk := wp_if hk q56
        obtain ⟨p57, w58, e59, h60, hl61⟩ := R.lst_ f_leaves
        cases e59
        obtain ⟨y62, e63, hk⟩ := wp_opt hk
        obtain ⟨w64, e65, r66⟩ := hl61.atI e63
        obtain rfl := R.str_ r66
        refine ⟨_, rfl, _, rfl, _, _, rfl, rfl, _, _, _, _, rfl, rfl, (SqLF O45.s h60), e65, _, rfl, _, rfl, _, _, _, _, _, rfl, (O45.pre1 0 rfl), hl13, wp_call hk (fun r67 er68 hk F69 H70 w72 g71 h73 hl74 => ?_) (fun n hn C H1 hC kp => hn C H1 hC (O45.kp1 kp 0 rfl))⟩
        have O75 := O45.call1 g71 0 rfl h73
        have S_ := g71.f
        have f_leaves := f_leaves.mono S_
        have h4 := S_ _ _ h4
        have hl5 := hl5.mono S_
        have h35 := S_ _ _ h35
        have hl36 := hl36.mono S_
        have h48 := h48.mono S_
        have h51 := S_ _ _ h51
        have h60 := S_ _ _ h60
        have hl61 := hl61.mono S_
        refine ⟨(by show 2 ≤ sizeLine; decide), fun p76 hp77 => ?_⟩
        obtain ⟨F78, O79, S80, h81⟩ := O75.putE hp77 (.tup [V.str y62, V.int r67.1])
        have f_leaves := f_leaves.mono S80
        have h4 := S80 _ _ h4
        have hl5 := hl5.mono S80
        have h35 := S80 _ _ h35
        have hl36 := hl36.mono S80
        have h48 := h48.mono S80
        have h51 := S80 _ _ h51
        have h60 := S80 _ _ h60
        have hl61 := hl61.mono S80
        have hl74 := hl74.mono S80
        have h82 : R (a := (Str × Int)) F78 (.ref p76) (y62, r67.1) := R.t2 h81 R.str R.int
        exact hk _ _ w72 O79.g (O79.at 0 rfl) hl74 _ (R.of_num h82)
      · have hk := wp_el hk q56
        obtain ⟨p83, w84, e85, h86, hl87⟩ := R.lst_ f_leaves
        cases e85
        obtain ⟨y88, e89, hk⟩ := wp_opt hk
        obtain ⟨w90, e91, r92⟩ := hl87.atI e89
        obtain rfl := R.str_ r92
        refine ⟨_, rfl, _, rfl, _, _, rfl, rfl, _, _, _, _, rfl, rfl, (SqLF O45.s h86), e91, (by show 1 ≤ sizeLine; decide), fun p93 hp94 => ?_⟩
        obtain ⟨F95, O96, S97, h98⟩ := O45.putE hp94 (.tup [V.str y88])
        have f_leaves := f_leaves.mono S97
        have h4 := S97 _ _ h4
        have hl5 := hl5.mono S97
        have hl13 := hl13.mono S97
        have h35 := S97 _ _ h35
        have hl36 := hl36.mono S97
        have h48 := h48.mono S97
        have h51 := S97 _ _ h51
        have h86 := S97 _ _ h86
        have hl87 := hl87.mono S97
        have h99 := R.of_nam h98
        exact hk _ _ w11 O96.g (O96.at 0 rfl) hl13 _ h99
abbrev s_law_sum : Stmt := top 43
theorem sc_law_sum : FnScope ["deck", "leaves", "many", "deep", "times", "way", "one", "other"] ["deck", "leaves", "many", "deep", "times"] (defScope s_law_sum) := ⟨rfl, rfl, rfl, by decide +kernel, rfl, by decide +kernel, by decide +kernel⟩
def m_law_sum : Nat → (List Int) → (List Str) → Int → Int → Bool → M (Sm × (List Int))
  | 0, _, _, _, _, _ => bad
  | k_ + 1, x_deck, x_leaves, x_many, x_deep, x_times =>
    m_law_take x_deck (7 : Int) >>= fun r1 =>
    if x_deep = (0 : Int) then (
    m_law_leaf r1.2 x_leaves x_many >>= fun r11 =>
    .ok (r11.1, r11.2))
    else (
    if r1.1 < (2 : Int) then (
    m_law_leaf r1.2 x_leaves x_many >>= fun r23 =>
    .ok (r23.1, r23.2))
    else (
    if r1.1 = (6 : Int) then (
    if x_times = true then (
    m_law_leaf r1.2 (cutL x_leaves (some (-(1 : Int))) none) x_many >>= fun r49 =>
    m_law_leaf r49.2 ([] : List Str) (1 : Int) >>= fun r68 =>
    m_law_leaf r68.2 (cutL x_leaves none (some (1 : Int))) x_many >>= fun r92 =>
    m_law_take r92.2 (2 : Int) >>= fun r111 =>
    opt (atI ([r68.1, r92.1]) r111.1) >>= fun y125 =>
    .ok ((Sm.two (T3.mk ("times" : Str) y125 r49.1).a (T3.mk ("times" : Str) y125 r49.1).b (T3.mk ("times" : Str) y125 r49.1).c), r111.2))
    else (
    m_law_sum k_ r1.2 x_leaves x_many (x_deep - (1 : Int)) x_times >>= fun r137 =>
    opt (atI ([("plus" : Str), ("less" : Str), ("most" : Str), ("least" : Str), ("plus" : Str)]) (r1.1 - (2 : Int))) >>= fun y161 =>
    m_law_sum k_ r137.2 x_leaves x_many (x_deep - (1 : Int)) x_times >>= fun r166 =>
    .ok ((Sm.two (T3.mk y161 r137.1 r166.1).a (T3.mk y161 r137.1 r166.1).b (T3.mk y161 r137.1 r166.1).c), r166.2)))
    else (
    m_law_sum k_ r1.2 x_leaves x_many (x_deep - (1 : Int)) x_times >>= fun r184 =>
    opt (atI ([("plus" : Str), ("less" : Str), ("most" : Str), ("least" : Str), ("plus" : Str)]) (r1.1 - (2 : Int))) >>= fun y208 =>
    m_law_sum k_ r184.2 x_leaves x_many (x_deep - (1 : Int)) x_times >>= fun r213 =>
    .ok ((Sm.two (T3.mk y208 r184.1 r213.1).a (T3.mk y208 r184.1 r213.1).b (T3.mk y208 r184.1 r213.1).c), r213.2))))
def sp_law_sum (k_ : Nat) (mg : Str → Option Value) : Sp := fun vs H Q E => ∃ (F : Hp) (a_deck : Addr) (w_deck : (List V)) (x_deck : (List Int)) (v_leaves : V) (x_leaves : (List Str)) (x_many : Int) (x_deep : Int) (x_times : Bool), vs = [.ref a_deck, v_leaves, V.int x_many, V.int x_deep, V.bl x_times] ∧ Pre F [(a_deck, .lst w_deck)] H ∧ RL (a := Int) F w_deck x_deck ∧ R (a := (List Str)) F v_leaves x_leaves ∧
  wp (m_law_sum k_ x_deck x_leaves x_many x_deep x_times) (fun r => ∀ (F' H' : Hp) (w0 : (List V)), Gr [a_deck] F H F' H' → H' a_deck = some (.lst w0) → RL (a := Int) F' w0 r.2 → ∀ v : V, R (a := Sm) F' v r.1 → Q v H')
  (fun n => ∀ (C : Addr) (H' : Hp), mg (Str.ofString n) = some (.ref C) → Kp [a_deck] H H' → E (.ref C) none H')
set_option maxHeartbeats 2000000 in
theorem ok_law_sum (nb : Nb mg) (C_law_leaf : Ca P w K mg base "_law_leaf" 2 ["deck", "leaves", "many"] (sp_law_leaf mg)) (C_law_take : Ca P w K mg base "_law_take" 1 ["deck", "many"] (sp_law_take mg)) (D : Df K mg "_law_sum" "_law_sum" s_law_sum ["deck", "leaves", "many", "deep", "times"]) : ∀ k_ : Nat, Ca P w K mg base "_law_sum" (k_ + 3) ["deck", "leaves", "many", "deep", "times"] (sp_law_sum k_ mg) := by
  intro k_
  induction k_ with
  | zero =>
    refine Ca.mk' D sc_law_sum (fun vs H Q E h => ?_) (fun q_ f_ cdv A outer s H vs Q E hr h => ?_)
    · obtain ⟨F, _, _, _, _, _, _, _, _, rfl, _⟩ := h
      rfl
    · obtain ⟨F, _, _, _, _, _, _, _, _, rfl, _, _, _, hk⟩ := h
      exact hk.elim
  | succ k_ ih_ =>
    have C_law_sum := ih_
    obtain ⟨fa_law_leaf, fd_law_leaf, G_law_leaf, M_law_leaf, K_law_leaf, B_law_leaf⟩ := C_law_leaf.ex
    obtain ⟨fa_law_take, fd_law_take, G_law_take, M_law_take, K_law_take, B_law_take⟩ := C_law_take.ex
    obtain ⟨fa_law_sum, fd_law_sum, G_law_sum, M_law_sum, K_law_sum, B_law_sum⟩ := C_law_sum.ex
    refine Ca.mk' D sc_law_sum (fun vs H Q E h => ?_) (fun q_ f_ cdv A outer s H vs Q E hr h => ?_)
    · obtain ⟨F, _, _, _, _, _, _, _, _, rfl, _⟩ := h
      rfl
    · obtain ⟨F, a_deck, w_deck, x_deck, v_leaves, x_leaves, x_many, x_deep, x_times, rfl, P0, f_deck, f_leaves, hk⟩ := h
      have nd := sc_law_sum.nd
      have hu64 := hr.units
      have hu128 := hu128_of hr
      have O := P0.start
      refine ⟨_, (pss_cons (ps_set (i := 5) nd rfl (Or.inl rfl) (pe_call G_law_take (hr.mono (by omega)) rfl M_law_take K_law_take B_law_take .nil (passes_call (takes_of rfl rfl rfl rfl) fun _ _ _ _ h => h) (pa_cons (pv 0) (pa_cons pe_int pa_nil))))
  (pss_cons (ps_if (PW.pt (pw_or (pt_cmpR (op_eqT Int hu64) (pv 3) pe_int (nomark _)) (pw_or1 (pt_cmpR op_lt (pv 5) pe_int (nomark _))))) (pss_one (ps_ret (pe_call G_law_leaf (hr.mono (by omega)) rfl M_law_leaf K_law_leaf B_law_leaf .nil (passes_call (takes_of rfl rfl rfl rfl) fun _ _ _ _ h => h) (pa_cons (pv 0) (pa_cons (pv 1) (pa_cons (pv 2) pa_nil)))))) pss_nil)
  (pss_cons (ps_if (PW.pt (pw_and (pt_cmpR (op_eqT Int hu64) (pv 5) pe_int (nomark _)) (pw_and1 (pt_val (pv 4))))) (pss_cons (ps_set (i := 7) nd rfl (Or.inl rfl) (pe_call G_law_leaf (hr.mono (by omega)) rfl M_law_leaf K_law_leaf B_law_leaf .nil (passes_call (takes_of rfl rfl rfl rfl) fun _ _ _ _ h => h) (pa_cons (pv 0) (pa_cons (pe_slice (slListK (K := K) rfl) (pv 1) (po_some (pe_un un_neg pe_int)) po_none) (pa_cons (pv 2) pa_nil)))))
  (pss_one (ps_ret (pe_tup (pa_cons pe_str (pa_cons (pe_ix (ixListK (K := K) rfl) (pe_lst (pa_cons (pe_call G_law_leaf (hr.mono (by omega)) rfl M_law_leaf K_law_leaf B_law_leaf .nil (passes_call (takes_of rfl rfl rfl rfl) fun _ _ _ _ h => h) (pa_cons (pv 0) (pa_cons (pe_lst pa_nil) (pa_cons pe_int pa_nil)))) (pa_cons (pe_call G_law_leaf (hr.mono (by omega)) rfl M_law_leaf K_law_leaf B_law_leaf .nil (passes_call (takes_of rfl rfl rfl rfl) fun _ _ _ _ h => h) (pa_cons (pv 0) (pa_cons (pe_slice (slListK (K := K) rfl) (pv 1) po_none (po_some pe_int)) (pa_cons (pv 2) pa_nil)))) pa_nil))) (pe_call G_law_take (hr.mono (by omega)) rfl M_law_take K_law_take B_law_take .nil (passes_call (takes_of rfl rfl rfl rfl) fun _ _ _ _ h => h) (pa_cons (pv 0) (pa_cons pe_int pa_nil))) (fun _ _ => rfl)) (pa_cons (pv 7) pa_nil))))))) pss_nil)
  (pss_cons (ps_set (i := 6) nd rfl (Or.inl rfl) (pe_call G_law_sum (hr.mono (by omega)) rfl M_law_sum K_law_sum B_law_sum .nil (passes_call (takes_of rfl rfl rfl rfl) fun _ _ _ _ h => h) (pa_cons (pv 0) (pa_cons (pv 1) (pa_cons (pv 2) (pa_cons (pe_op op_sub (pv 3) pe_int) (pa_cons (pv 4) pa_nil)))))))
  (pss_one (ps_ret (pe_tup (pa_cons (pe_ix (ixListK (K := K) rfl) (pe_lst (pa_cons pe_str (pa_cons pe_str (pa_cons pe_str (pa_cons pe_str (pa_cons pe_str pa_nil)))))) (pe_op op_sub (pv 5) pe_int) (fun _ _ => rfl)) (pa_cons (pv 6) (pa_cons (pe_call G_law_sum (hr.mono (by omega)) rfl M_law_sum K_law_sum B_law_sum .nil (passes_call (takes_of rfl rfl rfl rfl) fun _ _ _ _ h => h) (pa_cons (pv 0) (pa_cons (pv 1) (pa_cons (pv 2) (pa_cons (pe_op op_sub (pv 3) pe_int) (pa_cons (pv 4) pa_nil)))))) pa_nil)))))))))), ?_⟩
      refine ⟨_, rfl, _, _, _, _, _, rfl, (O.pre1 0 rfl), f_deck, wp_call hk (fun r1 er2 hk F3 H4 w6 g5 h7 hl8 => ?_) (fun n hn C H1 hC kp => hn C H1 hC (O.kp1 kp 0 rfl))⟩
      have O9 := O.call1 g5 0 rfl h7
      have S_ := g5.f
      have f_leaves := f_leaves.mono S_
      refine ⟨_, rfl, _, _, R.int, R.int, _, rfl, ?_⟩
      refine iteD (fun q10 => ?_) (fun q10 => ?_)
      · have hk := wp_if hk q10
        refine iteT ?_
        refine ⟨_, rfl, _, rfl, _, rfl, _, _, _, _, _, _, _, rfl, (O9.pre1 0 rfl), hl8, f_leaves, wp_call hk (fun r11 er12 hk F13 H14 w16 g15 h17 hl18 v19 r20 => ?_) (fun n hn C H1 hC kp => hn C H1 hC (O9.kp1 kp 0 rfl))⟩
        have O21 := O9.call1 g15 0 rfl h17
        have S_ := g15.f
        have f_leaves := f_leaves.mono S_
        exact hk _ _ w16 O21.g (O21.at 0 rfl) hl18 _ r20
      · have hk := wp_el hk q10
        refine ⟨_, rfl, _, _, rfl, rfl, _, rfl, ?_⟩
        refine iteD (fun q22 => ?_) (fun q22 => ?_)
        · have hk := wp_if hk q22
          refine ⟨_, rfl, _, rfl, _, rfl, _, _, _, _, _, _, _, rfl, (O9.pre1 0 rfl), hl8, f_leaves, wp_call hk (fun r23 er24 hk F25 H26 w28 g27 h29 hl30 v31 r32 => ?_) (fun n hn C H1 hC kp => hn C H1 hC (O9.kp1 kp 0 rfl))⟩
          have O33 := O9.call1 g27 0 rfl h29
          have S_ := g27.f
          have f_leaves := f_leaves.mono S_
          exact hk _ _ w28 O33.g (O33.at 0 rfl) hl30 _ r32
        · have hk := wp_el hk q22
          refine ⟨_, rfl, _, _, R.int, R.int, _, rfl, ?_⟩
          refine iteD (fun q34 => ?_) (fun q34 => ?_)
          · have hk := wp_if hk q34
            refine ⟨_, rfl, _, rfl, ?_⟩
            refine iteB (fun q35 => ?_) (fun q35 => ?_)
            · have hk := wp_if hk q35
              obtain ⟨p36, w37, e38, h39, hl40⟩ := R.lst_ f_leaves
              cases e38
              refine ⟨_, rfl, _, rfl, _, rfl, _, rfl, _, _, rfl, (SqLF O9.s h39), fun p41 hp42 => ?_⟩
              have hl48 : RL (a := Str) F3 (cutV w37 (some (-(1 : Int))) none) (cutL x_leaves (some (-(1 : Int))) none) := RL.cutL hl40 (some (-(1 : Int))) none
              obtain ⟨F43, O44, S45, h46⟩ := O9.putE hp42 (.lst (cutV w37 (some (-(1 : Int))) none))
              have f_leaves := f_leaves.mono S45
              have hl8 := hl8.mono S45
              have h39 := S45 _ _ h39
              have hl40 := hl40.mono S45
              have hl48 := hl48.mono S45
              have h47 := R.lst (a := Str) h46 hl48
              refine ⟨_, rfl, _, _, _, _, _, _, _, rfl, (O44.pre1 0 rfl), hl8, h47, wp_call hk (fun r49 er50 hk F51 H52 w54 g53 h55 hl56 v57 r58 => ?_) (fun n hn C H1 hC kp => hn C H1 hC (O44.kp1 kp 0 rfl))⟩
              have O59 := O44.call1 g53 0 rfl h55
              have S_ := g53.f
              have f_leaves := f_leaves.mono S_
              have h39 := S_ _ _ h39
              have hl40 := hl40.mono S_
              have h47 := h47.mono S_
              refine ⟨_, rfl, (by show 0 ≤ sizeLine; decide), fun p60 hp61 => ?_⟩
              have hl67 : RL (a := Str) F51 ([]) ([] : List Str) := RL.nil
              obtain ⟨F62, O63, S64, h65⟩ := O59.putE hp61 (.lst ([]))
              have f_leaves := f_leaves.mono S64
              have h39 := S64 _ _ h39
              have hl40 := hl40.mono S64
              have h47 := h47.mono S64
              have hl56 := hl56.mono S64
              have r58 := r58.mono S64
              have hl67 := hl67.mono S64
              have h66 := R.lst (a := Str) h65 hl67
              refine ⟨_, _, _, _, _, _, _, rfl, (O63.pre1 0 rfl), hl56, h66, wp_call hk (fun r68 er69 hk F70 H71 w73 g72 h74 hl75 v76 r77 => ?_) (fun n hn C H1 hC kp => hn C H1 hC (O63.kp1 kp 0 rfl))⟩
              have O78 := O63.call1 g72 0 rfl h74
              have S_ := g72.f
              have f_leaves := f_leaves.mono S_
              have h39 := S_ _ _ h39
              have hl40 := hl40.mono S_
              have h47 := h47.mono S_
              have r58 := r58.mono S_
              have h66 := h66.mono S_
              obtain ⟨p79, w80, e81, h82, hl83⟩ := R.lst_ f_leaves
              cases e81
              refine ⟨_, rfl, _, rfl, _, rfl, _, _, rfl, (SqLF O78.s h82), fun p84 hp85 => ?_⟩
              have hl91 : RL (a := Str) F70 (cutV w80 none (some (1 : Int))) (cutL x_leaves none (some (1 : Int))) := RL.cutL hl83 none (some (1 : Int))
              obtain ⟨F86, O87, S88, h89⟩ := O78.putE hp85 (.lst (cutV w80 none (some (1 : Int))))
              have f_leaves := f_leaves.mono S88
              have h39 := S88 _ _ h39
              have hl40 := hl40.mono S88
              have h47 := h47.mono S88
              have r58 := r58.mono S88
              have h66 := h66.mono S88
              have hl75 := hl75.mono S88
              have r77 := r77.mono S88
              have h82 := S88 _ _ h82
              have hl83 := hl83.mono S88
              have hl91 := hl91.mono S88
              have h90 := R.lst (a := Str) h89 hl91
              refine ⟨_, rfl, _, _, _, _, _, _, _, rfl, (O87.pre1 0 rfl), hl75, h90, wp_call hk (fun r92 er93 hk F94 H95 w97 g96 h98 hl99 v100 r101 => ?_) (fun n hn C H1 hC kp => hn C H1 hC (O87.kp1 kp 0 rfl))⟩
              have O102 := O87.call1 g96 0 rfl h98
              have S_ := g96.f
              have f_leaves := f_leaves.mono S_
              have h39 := S_ _ _ h39
              have hl40 := hl40.mono S_
              have h47 := h47.mono S_
              have r58 := r58.mono S_
              have h66 := h66.mono S_
              have r77 := r77.mono S_
              have h82 := S_ _ _ h82
              have hl83 := hl83.mono S_
              have h90 := h90.mono S_
              refine ⟨(by show 2 ≤ sizeLine; decide), fun p103 hp104 => ?_⟩
              have hl110 : RL (a := Sm) F94 ([v76, v100]) ([r68.1, r92.1]) := RL.cons r77 (RL.cons r101 RL.nil)
              obtain ⟨F105, O106, S107, h108⟩ := O102.putE hp104 (.lst ([v76, v100]))
              have f_leaves := f_leaves.mono S107
              have h39 := S107 _ _ h39
              have hl40 := hl40.mono S107
              have h47 := h47.mono S107
              have r58 := r58.mono S107
              have h66 := h66.mono S107
              have r77 := r77.mono S107
              have h82 := S107 _ _ h82
              have hl83 := hl83.mono S107
              have h90 := h90.mono S107
              have hl99 := hl99.mono S107
              have r101 := r101.mono S107
              have hl110 := hl110.mono S107
              have h109 := R.lst (a := Sm) h108 hl110
              refine ⟨_, rfl, _, _, _, _, _, rfl, (O106.pre1 0 rfl), hl99, wp_call hk (fun r111 er112 hk F113 H114 w116 g115 h117 hl118 => ?_) (fun n hn C H1 hC kp => hn C H1 hC (O106.kp1 kp 0 rfl))⟩
              have O119 := O106.call1 g115 0 rfl h117
              have S_ := g115.f
              have f_leaves := f_leaves.mono S_
              have h39 := S_ _ _ h39
              have hl40 := hl40.mono S_
              have h47 := h47.mono S_
              have r58 := r58.mono S_
              have h66 := h66.mono S_
              have r77 := r77.mono S_
              have h82 := S_ _ _ h82
              have hl83 := hl83.mono S_
              have h90 := h90.mono S_
              have r101 := r101.mono S_
              have h109 := h109.mono S_
              obtain ⟨p120, w121, e122, h123, hl124⟩ := R.lst_ h109
              cases e122
              obtain ⟨y125, e126, hk⟩ := wp_opt hk
              obtain ⟨w127, e128, r129⟩ := hl124.atI e126
              refine ⟨_, _, _, _, rfl, rfl, (SqLF O119.s h123), e128, _, rfl, (by show 3 ≤ sizeLine; decide), fun p130 hp131 => ?_⟩
              obtain ⟨F132, O133, S134, h135⟩ := O119.putE hp131 (.tup [V.str ("times" : Str), w127, v57])
              have f_leaves := f_leaves.mono S134
              have h39 := S134 _ _ h39
              have hl40 := hl40.mono S134
              have h47 := h47.mono S134
              have r58 := r58.mono S134
              have h66 := h66.mono S134
              have r77 := r77.mono S134
              have h82 := S134 _ _ h82
              have hl83 := hl83.mono S134
              have h90 := h90.mono S134
              have r101 := r101.mono S134
              have h109 := h109.mono S134
              have hl118 := hl118.mono S134
              have h123 := S134 _ _ h123
              have hl124 := hl124.mono S134
              have r129 := r129.mono S134
              have h136 : R (a := (T3 Str Sm Sm)) F132 (.ref p130) (T3.mk ("times" : Str) y125 r49.1) := R.t3 h135 R.str r129 r58
              exact hk _ _ w116 O133.g (O133.at 0 rfl) hl118 _ (R.of_two h136)
            · have hk := wp_el hk q35
              refine ⟨_, rfl, _, rfl, _, rfl, _, rfl, _, _, rfl, rfl, _, rfl, _, _, _, _, _, _, _, _, _, rfl, (O9.pre1 0 rfl), hl8, f_leaves, wp_call hk (fun r137 er138 hk F139 H140 w142 g141 h143 hl144 v145 r146 => ?_) (fun n hn C H1 hC kp => hn C H1 hC (O9.kp1 kp 0 rfl))⟩
              have O147 := O9.call1 g141 0 rfl h143
              have S_ := g141.f
              have f_leaves := f_leaves.mono S_
              refine ⟨(by show 5 ≤ sizeLine; decide), fun p148 hp149 => ?_⟩
              have hl155 : RL (a := Str) F139 ([V.str ("plus" : Str), V.str ("less" : Str), V.str ("most" : Str), V.str ("least" : Str), V.str ("plus" : Str)]) ([("plus" : Str), ("less" : Str), ("most" : Str), ("least" : Str), ("plus" : Str)]) := RL.cons R.str (RL.cons R.str (RL.cons R.str (RL.cons R.str (RL.cons R.str RL.nil))))
              obtain ⟨F150, O151, S152, h153⟩ := O147.putE hp149 (.lst ([V.str ("plus" : Str), V.str ("less" : Str), V.str ("most" : Str), V.str ("least" : Str), V.str ("plus" : Str)]))
              have f_leaves := f_leaves.mono S152
              have hl144 := hl144.mono S152
              have r146 := r146.mono S152
              have hl155 := hl155.mono S152
              have h154 := R.lst (a := Str) h153 hl155
              obtain ⟨p156, w157, e158, h159, hl160⟩ := R.lst_ h154
              cases e158
              obtain ⟨y161, e162, hk⟩ := wp_opt hk
              obtain ⟨w163, e164, r165⟩ := hl160.atI e162
              obtain rfl := R.str_ r165
              refine ⟨_, rfl, _, _, rfl, rfl, _, _, _, _, rfl, rfl, (SqLF O151.s h159), e164, _, rfl, _, rfl, _, rfl, _, rfl, _, rfl, _, _, rfl, rfl, _, rfl, _, _, _, _, _, _, _, _, _, rfl, (O151.pre1 0 rfl), hl144, f_leaves, wp_call hk (fun r166 er167 hk F168 H169 w171 g170 h172 hl173 v174 r175 => ?_) (fun n hn C H1 hC kp => hn C H1 hC (O151.kp1 kp 0 rfl))⟩
              have O176 := O151.call1 g170 0 rfl h172
              have S_ := g170.f
              have f_leaves := f_leaves.mono S_
              have r146 := r146.mono S_
              have h154 := h154.mono S_
              have h159 := S_ _ _ h159
              have hl160 := hl160.mono S_
              refine ⟨(by show 3 ≤ sizeLine; decide), fun p177 hp178 => ?_⟩
              obtain ⟨F179, O180, S181, h182⟩ := O176.putE hp178 (.tup [V.str y161, v145, v174])
              have f_leaves := f_leaves.mono S181
              have r146 := r146.mono S181
              have h154 := h154.mono S181
              have h159 := S181 _ _ h159
              have hl160 := hl160.mono S181
              have hl173 := hl173.mono S181
              have r175 := r175.mono S181
              have h183 : R (a := (T3 Str Sm Sm)) F179 (.ref p177) (T3.mk y161 r137.1 r166.1) := R.t3 h182 R.str r146 r175
              exact hk _ _ w171 O180.g (O180.at 0 rfl) hl173 _ (R.of_two h183)
          · have hk := wp_el hk q34
            refine iteF ?_
            refine ⟨_, rfl, _, rfl, _, rfl, _, rfl, _, _, rfl, rfl, _, rfl, _, _, _, _, _, _, _, _, _, rfl, (O9.pre1 0 rfl), hl8, f_leaves, wp_call hk (fun r184 er185 hk F186 H187 w189 g188 h190 hl191 v192 r193 => ?_) (fun n hn C H1 hC kp => hn C H1 hC (O9.kp1 kp 0 rfl))⟩
            have O194 := O9.call1 g188 0 rfl h190
            have S_ := g188.f
            have f_leaves := f_leaves.mono S_
            refine ⟨(by show 5 ≤ sizeLine; decide), fun p195 hp196 => ?_⟩
            have hl202 : RL (a := Str) F186 ([V.str ("plus" : Str), V.str ("less" : Str), V.str ("most" : Str), V.str ("least" : Str), V.str ("plus" : Str)]) ([("plus" : Str), ("less" : Str), ("most" : Str), ("least" : Str), ("plus" : Str)]) := RL.cons R.str (RL.cons R.str (RL.cons R.str (RL.cons R.str (RL.cons R.str RL.nil))))
            obtain ⟨F197, O198, S199, h200⟩ := O194.putE hp196 (.lst ([V.str ("plus" : Str), V.str ("less" : Str), V.str ("most" : Str), V.str ("least" : Str), V.str ("plus" : Str)]))
            have f_leaves := f_leaves.mono S199
            have hl191 := hl191.mono S199
            have r193 := r193.mono S199
            have hl202 := hl202.mono S199
            have h201 := R.lst (a := Str) h200 hl202
            obtain ⟨p203, w204, e205, h206, hl207⟩ := R.lst_ h201
            cases e205
            obtain ⟨y208, e209, hk⟩ := wp_opt hk
            obtain ⟨w210, e211, r212⟩ := hl207.atI e209
            obtain rfl := R.str_ r212
            refine ⟨_, rfl, _, _, rfl, rfl, _, _, _, _, rfl, rfl, (SqLF O198.s h206), e211, _, rfl, _, rfl, _, rfl, _, rfl, _, rfl, _, _, rfl, rfl, _, rfl, _, _, _, _, _, _, _, _, _, rfl, (O198.pre1 0 rfl), hl191, f_leaves, wp_call hk (fun r213 er214 hk F215 H216 w218 g217 h219 hl220 v221 r222 => ?_) (fun n hn C H1 hC kp => hn C H1 hC (O198.kp1 kp 0 rfl))⟩
            have O223 := O198.call1 g217 0 rfl h219
            have S_ := g217.f
            have f_leaves := f_leaves.mono S_
            have r193 := r193.mono S_
            have h201 := h201.mono S_
            have h206 := S_ _ _ h206
            have hl207 := hl207.mono S_
            refine ⟨(by show 3 ≤ sizeLine; decide), fun p224 hp225 => ?_⟩
            obtain ⟨F226, O227, S228, h229⟩ := O223.putE hp225 (.tup [V.str y208, v192, v221])
            have f_leaves := f_leaves.mono S228
            have r193 := r193.mono S228
            have h201 := h201.mono S228
            have h206 := S228 _ _ h206
            have hl207 := hl207.mono S228
            have hl220 := hl220.mono S228
            have r222 := r222.mono S228
            have h230 : R (a := (T3 Str Sm Sm)) F226 (.ref p224) (T3.mk y208 r184.1 r213.1) := R.t3 h229 R.str r193 r222
            exact hk _ _ w218 O227.g (O227.at 0 rfl) hl220 _ (R.of_two h230)
abbrev s_law_rule : Stmt := top 44
theorem sc_law_rule : FnScope ["deck", "times", "many", "found", "leaves", "k"] ["deck", "times"] (defScope s_law_rule) := ⟨rfl, rfl, rfl, by decide +kernel, rfl, by decide +kernel, by decide +kernel⟩
def m_law_rule (x_deck : (List Int)) (x_times : Bool) : M ((T4 (List Sm) (List Sm) (List Sm) Sm) × (List Int)) :=
m_law_take x_deck (3 : Int) >>= fun r1 =>
loopN (fun (y53 : (List Str)) (st64 : (List (List Sm)) × (List Int)) =>
chk (okR ((1 : Int) + r1.1)) >>= fun _ =>
compS (fun (y74 : Int) (st92 : (List Int)) =>
m_law_sum 5 st92 y53 ((1 : Int) + r1.1) (2 : Int) x_times >>= fun r98 =>
.ok (some r98.1, r98.2)) (rangeL 0 ((1 : Int) + r1.1)) st64.2 >>= fun q122 =>
appL st64.1 q122.1 >>= fun _ =>
.ok ((st64.1 ++ [q122.1]), q122.2)) ([[("own" : Str)], [("more" : Str), ("own" : Str), ("tie" : Str)], [("so" : Str), ("own" : Str), ("more" : Str)]]) (([] : List (List Sm)), r1.2) >>= fun st135 =>
opt (atI st135.1 (0 : Int)) >>= fun y144 =>
opt (atI st135.1 (1 : Int)) >>= fun y149 =>
opt (atI st135.1 (2 : Int)) >>= fun y154 =>
m_law_sum 5 st135.2 ([("so" : Str), ("own" : Str)]) ((1 : Int) + r1.1) (2 : Int) x_times >>= fun r167 =>
.ok ((T4.mk y144 y149 y154 r167.1), r167.2)
def sp_law_rule (mg : Str → Option Value) : Sp := fun vs H Q E => ∃ (F : Hp) (a_deck : Addr) (w_deck : (List V)) (x_deck : (List Int)) (x_times : Bool), vs = [.ref a_deck, V.bl x_times] ∧ Pre F [(a_deck, .lst w_deck)] H ∧ RL (a := Int) F w_deck x_deck ∧
  wp (m_law_rule x_deck x_times) (fun r => ∀ (F' H' : Hp) (w0 : (List V)), Gr [a_deck] F H F' H' → H' a_deck = some (.lst w0) → RL (a := Int) F' w0 r.2 → ∀ v : V, R (a := (T4 (List Sm) (List Sm) (List Sm) Sm)) F' v r.1 → Q v H')
  (fun n => ∀ (C : Addr) (H' : Hp), mg (Str.ofString n) = some (.ref C) → Kp [a_deck] H H' → E (.ref C) none H')
set_option maxHeartbeats 2000000 in
theorem ok_law_rule (nb : Nb mg) (C_law_sum : Ca P w K mg base "_law_sum" 8 ["deck", "leaves", "many", "deep", "times"] (sp_law_sum 5 mg)) (C_law_take : Ca P w K mg base "_law_take" 1 ["deck", "many"] (sp_law_take mg)) (D : Df K mg "_law_rule" "_law_rule" s_law_rule ["deck", "times"]) : Ca P w K mg base "_law_rule" 9 ["deck", "times"] (sp_law_rule mg) := by
  obtain ⟨fa_law_sum, fd_law_sum, G_law_sum, M_law_sum, K_law_sum, B_law_sum⟩ := C_law_sum.ex
  obtain ⟨fa_law_take, fd_law_take, G_law_take, M_law_take, K_law_take, B_law_take⟩ := C_law_take.ex
  refine Ca.mk' D sc_law_rule (fun vs H Q E h => ?_) (fun q_ f_ cdv A outer s H vs Q E hr h => ?_)
  · obtain ⟨F, _, _, _, _, rfl, _⟩ := h
    rfl
  · obtain ⟨F, a_deck, w_deck, x_deck, x_times, rfl, P0, f_deck, hk⟩ := h
    have nd := sc_law_rule.nd
    have hu64 := hr.units
    have hu128 := hu128_of hr
    have O := P0.start
    refine ⟨_, (pss_cons (ps_set (i := 2) nd rfl (Or.inr rfl) (pe_op op_add pe_int (pe_call G_law_take (hr.mono (by decide)) rfl M_law_take K_law_take B_law_take .nil (passes_call (takes_of rfl rfl rfl rfl) fun _ _ _ _ h => h) (pa_cons (pv 0) (pa_cons pe_int pa_nil)))))
  (pss_cons (ps_set (i := 3) nd rfl (Or.inl rfl) (pe_lst pa_nil))
  (pss_cons (ps_for (passes_of rfl) rfl (pi_list (pe_lst (pa_cons (pe_lst (pa_cons pe_str pa_nil)) (pa_cons (pe_lst (pa_cons pe_str (pa_cons pe_str (pa_cons pe_str pa_nil)))) (pa_cons (pe_lst (pa_cons pe_str (pa_cons pe_str (pa_cons pe_str pa_nil)))) pa_nil))))) (pg_name (i := 4) nd rfl (Or.inr rfl)) (pss_one (ps_expr (pe_bm PySem.F.plainAttrs_list PySem.F.slot_list_append PySem.F.type_list_append mt_append (pv 3) (pa_cons (pe_lc (own := [("k", 5)]) (g := gName 5) (tt := _) rfl nd (pi_range1 rfl nb.b_range (pa_cons (pv 2) pa_nil)) (blkOk_by (own := [("k", 5)]) (N := ["deck", "times", "many", "found", "leaves", "k"]) (sc := defScope s_law_rule) (by decide +kernel)) (fun _ _ _ _ _ => (pg_name (i := 5) nd rfl (Or.inl rfl))) (fun _ _ _ _ _ => pts_nil) (fun _ _ _ _ _ => (pe_call G_law_sum (hr.mono (by decide)) rfl M_law_sum K_law_sum B_law_sum .nil passL (pa_cons (pv 0) (pa_cons (pv 4) (pa_cons (pv 2) (pa_cons pe_int (pa_cons (pv 1) pa_nil)))))))) pa_nil)))))
  (pss_one (ps_ret (pe_tup (pa_cons (pe_ix (ixListK (K := K) rfl) (pv 3) pe_int (fun _ _ => rfl)) (pa_cons (pe_ix (ixListK (K := K) rfl) (pv 3) pe_int (fun _ _ => rfl)) (pa_cons (pe_ix (ixListK (K := K) rfl) (pv 3) pe_int (fun _ _ => rfl)) (pa_cons (pe_call G_law_sum (hr.mono (by decide)) rfl M_law_sum K_law_sum B_law_sum .nil (passes_call (takes_of rfl rfl rfl rfl) fun _ _ _ _ h => h) (pa_cons (pv 0) (pa_cons (pe_lst (pa_cons pe_str (pa_cons pe_str pa_nil))) (pa_cons (pv 2) (pa_cons pe_int (pa_cons (pv 1) pa_nil)))))) pa_nil)))))))))), ?_⟩
    refine ⟨_, rfl, _, _, _, _, _, rfl, (O.pre1 0 rfl), f_deck, wp_call hk (fun r1 er2 hk F3 H4 w6 g5 h7 hl8 => ?_) (fun n hn C H1 hC kp => hn C H1 hC (O.kp1 kp 0 rfl))⟩
    have O9 := O.call1 g5 0 rfl h7
    have S_ := g5.f
    refine ⟨_, _, rfl, rfl, (by show 0 ≤ sizeLine; decide), fun p11 hp12 => ?_⟩
    have hl14 : RL (a := (List Sm)) F3 ([]) ([] : List (List Sm)) := RL.nil
    have z15 := O9.was hp12
    have O13 := O9.new (o := .lst ([])) hp12
    refine ⟨(by show 1 ≤ sizeLine; decide), fun p16 hp17 => ?_⟩
    have hl23 : RL (a := Str) F3 ([V.str ("own" : Str)]) ([("own" : Str)]) := RL.cons R.str RL.nil
    obtain ⟨F18, O19, S20, h21⟩ := O13.putE hp17 (.lst ([V.str ("own" : Str)]))
    have hl8 := hl8.mono S20
    have hl14 := hl14.mono S20
    have hl23 := hl23.mono S20
    have h22 := R.lst (a := Str) h21 hl23
    refine ⟨(by show 3 ≤ sizeLine; decide), fun p24 hp25 => ?_⟩
    have hl31 : RL (a := Str) F18 ([V.str ("more" : Str), V.str ("own" : Str), V.str ("tie" : Str)]) ([("more" : Str), ("own" : Str), ("tie" : Str)]) := RL.cons R.str (RL.cons R.str (RL.cons R.str RL.nil))
    obtain ⟨F26, O27, S28, h29⟩ := O19.putE hp25 (.lst ([V.str ("more" : Str), V.str ("own" : Str), V.str ("tie" : Str)]))
    have hl8 := hl8.mono S28
    have hl14 := hl14.mono S28
    have h22 := h22.mono S28
    have hl31 := hl31.mono S28
    have h30 := R.lst (a := Str) h29 hl31
    refine ⟨(by show 3 ≤ sizeLine; decide), fun p32 hp33 => ?_⟩
    have hl39 : RL (a := Str) F26 ([V.str ("so" : Str), V.str ("own" : Str), V.str ("more" : Str)]) ([("so" : Str), ("own" : Str), ("more" : Str)]) := RL.cons R.str (RL.cons R.str (RL.cons R.str RL.nil))
    obtain ⟨F34, O35, S36, h37⟩ := O27.putE hp33 (.lst ([V.str ("so" : Str), V.str ("own" : Str), V.str ("more" : Str)]))
    have hl8 := hl8.mono S36
    have hl14 := hl14.mono S36
    have h22 := h22.mono S36
    have h30 := h30.mono S36
    have hl39 := hl39.mono S36
    have h38 := R.lst (a := Str) h37 hl39
    refine ⟨(by show 3 ≤ sizeLine; decide), fun p40 hp41 => ?_⟩
    have hl47 : RL (a := (List Str)) F34 ([V.ref p16, V.ref p24, V.ref p32]) ([[("own" : Str)], [("more" : Str), ("own" : Str), ("tie" : Str)], [("so" : Str), ("own" : Str), ("more" : Str)]]) := RL.cons h22 (RL.cons h30 (RL.cons h38 RL.nil))
    obtain ⟨F42, O43, S44, h45⟩ := O35.putE hp41 (.lst ([V.ref p16, V.ref p24, V.ref p32]))
    have hl8 := hl8.mono S44
    have hl14 := hl14.mono S44
    have h22 := h22.mono S44
    have h30 := h30.mono S44
    have h38 := h38.mono S44
    have hl47 := hl47.mono S44
    have h46 := R.lst (a := (List Str)) h45 hl47
    obtain ⟨p48, w49, e50, h51, hl52⟩ := R.lst_ h46
    cases e50
    obtain ⟨L54, hL55, hLs56, hLd57⟩ := loopN_L hk
    refine ⟨_, rfl, ⟨_, (SqLF O43.s h51)⟩, ?_⟩
    refine for_list (K := K) (xs := w49) (fun i σ H => ∃ (F_ : Hp) (st : (List (List Sm)) × (List Int)) (w_0 : (List V)) (w_1 : (List V)) (t_0 : Option V), σ = [some (V.ref a_deck), some (V.bl x_times), some (V.int ((1 : Int) + r1.1)), some (V.ref p11), t_0, none] ∧ Same F42 F_ ∧ Ow _ F_ [(p11, .lst w_0), (a_deck, .lst w_1)] H ∧ RL (a := (List Sm)) F_ w_0 st.1 ∧ RL (a := Int) F_ w_1 st.2 ∧ L54 (List.drop i ([[("own" : Str)], [("more" : Str), ("own" : Str), ("tie" : Str)], [("so" : Str), ("own" : Str), ("more" : Str)]])) st) ⟨F42, (([] : List (List Sm)), r1.2), [], w6, none, rfl, Same.refl _, O43, hl14, hl8, hL55⟩ (fun i_ σ_ H_ _ hp_ => ?_) ?_ ?_
    · obtain ⟨_, _, _, _, _, _, hS_, hO_, _⟩ := hp_
      exact SqLF hO_.s (hS_ _ _ h51)
    · rintro i58 x59 sg60 H61 hi62 ⟨F70, st64, w65, w66, t69, rfl, S63, O71, hl67, hl68, hL55⟩
      have h22 := h22.mono S63
      have h30 := h30.mono S63
      have h38 := h38.mono S63
      have h46 := h46.mono S63
      have h51 := S63 _ _ h51
      have hl52 := hl52.mono S63
      obtain ⟨y53, e72, r73⟩ := RL.got hl52 hi62
      rw [drop_at e72] at hL55
      have hk := hLs56 _ _ _ hL55
      obtain ⟨c75, hk⟩ := wp_chk hk
      obtain ⟨c80, L76, hL77, hLs78, hLd79⟩ := compS_L hk
      refine ⟨_, rfl, (.inl ⟨rfl, _, SqL.of (O71.at 0 rfl)⟩), _, rfl, _, rfl, c75.lo, c75.hi, fun p81 hp82 => ?_⟩
      have z109 := O71.was hp82
      refine lc_range (lo := 0) (n := (((1 : Int) + r1.1)).toNat) (fun i H => ∃ (F_ : Hp) (st : (List Int)) (acc : List Sm) (wa : List V) (w_0 : (List V)), Same F70 F_ ∧ Ow _ F_ [(p81, .lst wa), (p11, .lst w65), (a_deck, .lst w_0)] H ∧ RL F_ wa acc ∧ RL (a := Int) F_ w_0 st ∧ wa.length ≤ i ∧ L76 (List.drop i (rangeL 0 ((1 : Int) + r1.1))) acc st) ⟨F70, st64.2, [], [], w66, Same.refl _, O71.new hp82, RL.nil, hl68, Nat.zero_le _, hL77⟩ ?_ ?_
      · rintro i83 H85 hi86 ⟨F91, st92, acc88, wa89, w94, S93, O97, hl96, hl95, la90, hL77⟩
        have h22 := h22.mono S93
        have h30 := h30.mono S93
        have h38 := h38.mono S93
        have h46 := h46.mono S93
        have h51 := S93 _ _ h51
        have hl52 := hl52.mono S93
        have hl67 := hl67.mono S93
        have S63 := S63.trans S93
        have r73 := r73.mono S93
        rw [rangeL_get0 hi86] at hL77
        have hk := hLs78 _ _ _ _ hL77
        obtain ⟨y74, he_⟩ : ∃ z_, z_ = 0 + (i83 : Int) := ⟨_, rfl⟩
        try rw [← he_] at hk
        rw [← he_]
        refine ⟨rfl, ?_⟩
        refine ⟨_, rfl, _, rfl, _, rfl, _, rfl, _, _, _, _, _, _, _, _, _, rfl, (O97.pre1 2 rfl), hl95, r73, wp_call hk (fun r98 er99 hk F100 H101 w103 g102 h104 hl105 v106 r107 => ?_) (fun n hn => hn.elim)⟩
        have O108 := O97.call1 g102 2 rfl h104
        have S_ := g102.f
        have h22 := h22.mono S_
        have h30 := h30.mono S_
        have h38 := h38.mono S_
        have h46 := h46.mono S_
        have h51 := S_ _ _ h51
        have hl52 := hl52.mono S_
        have hl67 := hl67.mono S_
        have S63 := S63.trans S_
        have r73 := r73.mono S_
        have S93 := S93.trans S_
        have hl96 := hl96.mono S_
        refine ⟨_, (O108.at 0 rfl), (comp_lenR la90 hi86 (by rw [Int.sub_zero]) c80), ?_⟩
        exact ⟨F100, r98.2, acc88 ++ [r98.1], wa89 ++ [v106], w103, S93, O108.set 0 (.lst (wa89 ++ [v106])) rfl, RL.snoc hl96 r107, hl105, by rw [List.length_append]; exact Nat.succ_le_succ la90, hk⟩
      rintro H110 ⟨F111, st112, acc113, wa114, w120, S115, O116, hl117, hl121, la118, hL119⟩
      rw [rangeL_end0] at hL119
      have hk := hLd79 _ _ hL119
      have h22 := h22.mono S115
      have h30 := h30.mono S115
      have h38 := h38.mono S115
      have h46 := h46.mono S115
      have h51 := S115 _ _ h51
      have hl52 := hl52.mono S115
      have hl67 := hl67.mono S115
      have S63 := S63.trans S115
      have r73 := r73.mono S115
      obtain ⟨F123, O124, S125, h126⟩ := O116.frzE 0 rfl z109
      have h22 := h22.mono S125
      have h30 := h30.mono S125
      have h38 := h38.mono S125
      have h46 := h46.mono S125
      have h51 := S125 _ _ h51
      have hl52 := hl52.mono S125
      have hl67 := hl67.mono S125
      have S63 := S63.trans S125
      have r73 := r73.mono S125
      have hl121 := hl121.mono S125
      have hl117 := hl117.mono S125
      have h127 := R.lst (a := Sm) h126 hl117
      obtain ⟨c128, hk⟩ := wp_appL hk
      refine ⟨_, _, _, rfl, rfl, (O124.at 0 rfl), (by rw [hl67.len]; exact c128), ?_⟩
      have O130 := O124.set 0 (.lst (w65 ++ [V.ref p81])) rfl
      have hl131 : RL (a := (List Sm)) F123 (w65 ++ [V.ref p81]) (st64.1 ++ [acc113]) := RL.snoc hl67 h127
      exact ⟨F123, ((st64.1 ++ [acc113]), st112), (w65 ++ [V.ref p81]), w120, some x59, rfl, S63, O130, hl131, hl121, hk⟩
    rintro sg132 H133 ⟨F142, st135, w137, w138, t141, rfl, S134, O143, hl139, hl140, hL136⟩
    rw [drop_end hl52.len] at hL136
    have hk := hLd57 _ hL136
    have h22 := h22.mono S134
    have h30 := h30.mono S134
    have h38 := h38.mono S134
    have h46 := h46.mono S134
    have h51 := S134 _ _ h51
    have hl52 := hl52.mono S134
    obtain ⟨y144, e145, hk⟩ := wp_opt hk
    obtain ⟨w146, e147, r148⟩ := hl139.atI e145
    obtain ⟨y149, e150, hk⟩ := wp_opt hk
    obtain ⟨w151, e152, r153⟩ := hl139.atI e150
    obtain ⟨y154, e155, hk⟩ := wp_opt hk
    obtain ⟨w156, e157, r158⟩ := hl139.atI e155
    refine ⟨_, rfl, _, _, _, _, rfl, rfl, (SqL.of (O143.at 0 rfl)), e147, _, rfl, _, _, _, _, rfl, rfl, (SqL.of (O143.at 0 rfl)), e152, _, rfl, _, _, _, _, rfl, rfl, (SqL.of (O143.at 0 rfl)), e157, _, rfl, (by show 2 ≤ sizeLine; decide), fun p159 hp160 => ?_⟩
    have hl166 : RL (a := Str) F142 ([V.str ("so" : Str), V.str ("own" : Str)]) ([("so" : Str), ("own" : Str)]) := RL.cons R.str (RL.cons R.str RL.nil)
    obtain ⟨F161, O162, S163, h164⟩ := O143.putE hp160 (.lst ([V.str ("so" : Str), V.str ("own" : Str)]))
    have h22 := h22.mono S163
    have h30 := h30.mono S163
    have h38 := h38.mono S163
    have h46 := h46.mono S163
    have h51 := S163 _ _ h51
    have hl52 := hl52.mono S163
    have hl139 := hl139.mono S163
    have hl140 := hl140.mono S163
    have r148 := r148.mono S163
    have r153 := r153.mono S163
    have r158 := r158.mono S163
    have hl166 := hl166.mono S163
    have h165 := R.lst (a := Str) h164 hl166
    refine ⟨_, rfl, _, rfl, _, _, _, _, _, _, _, _, _, rfl, (O162.pre1 1 rfl), hl140, h165, wp_call hk (fun r167 er168 hk F169 H170 w172 g171 h173 hl174 v175 r176 => ?_) (fun n hn C H1 hC kp => hn C H1 hC (O162.kp1 kp 1 rfl))⟩
    have O177 := O162.call1 g171 1 rfl h173
    have S_ := g171.f
    have h22 := h22.mono S_
    have h30 := h30.mono S_
    have h38 := h38.mono S_
    have h46 := h46.mono S_
    have h51 := S_ _ _ h51
    have hl52 := hl52.mono S_
    have hl139 := hl139.mono S_
    have r148 := r148.mono S_
    have r153 := r153.mono S_
    have r158 := r158.mono S_
    have h165 := h165.mono S_
    refine ⟨(by show 4 ≤ sizeLine; decide), fun p178 hp179 => ?_⟩
    obtain ⟨F180, O181, S182, h183⟩ := O177.putE hp179 (.tup [w146, w151, w156, v175])
    have h22 := h22.mono S182
    have h30 := h30.mono S182
    have h38 := h38.mono S182
    have h46 := h46.mono S182
    have h51 := S182 _ _ h51
    have hl52 := hl52.mono S182
    have hl139 := hl139.mono S182
    have r148 := r148.mono S182
    have r153 := r153.mono S182
    have r158 := r158.mono S182
    have h165 := h165.mono S182
    have hl174 := hl174.mono S182
    have r176 := r176.mono S182
    have h184 : R (a := (T4 (List Sm) (List Sm) (List Sm) Sm)) F180 (.ref p178) (T4.mk y144 y149 y154 r167.1) := R.t4 h183 r148 r153 r158 r176
    exact hk _ _ w172 O181.g (O181.at 1 rfl) hl174 _ h184
abbrev s_law_asked : Stmt := top 45
theorem sc_law_asked : FnScope ["tree", "rule", "one", "other", "way", "caught", "kinds", "e"] ["tree", "rule", "one", "other", "way"] (defScope s_law_asked) := ⟨rfl, rfl, rfl, by decide +kernel, rfl, by decide +kernel, by decide +kernel⟩
def m_law_asked (x_tree : ((List Int) × (List (T3 Int Int Int)))) (x_rule : (T4 (List Sm) (List Sm) (List Sm) Sm)) (x_one : Int) (x_other : Int) (x_way : Int) : M (Str) :=
tryK ["NoPlace", "NoRule"] (
if x_way = (0 : Int) then (
m_tied_to x_tree x_one >>= fun r2 =>
.ok ())
else (
if x_way = (1 : Int) then (
m_way_between x_tree x_one x_other >>= fun r148 =>
.ok ())
else (
if x_way = (2 : Int) then (
m_seat_worth x_tree x_rule x_one >>= fun r293 =>
.ok ())
else (
m_branch_row x_tree x_rule (x_one, x_other) >>= fun r432 =>
.ok ())))) (
.ok ("other" : Str)) (fun n_ => if n_ = "NoPlace" then (
if (cntB true ([true, false])) ≠ (1 : Int) then (
.ok ("other" : Str))
else (
ixB ([true, false]) true >>= fun n80 =>
opt (atI ([("NoPlace" : Str), ("NoRule" : Str)]) n80) >>= fun y86 =>
.ok y86))
else (
if n_ = "NoRule" then (
if (cntB true ([false, true])) ≠ (1 : Int) then (
.ok ("other" : Str))
else (
ixB ([false, true]) true >>= fun n136 =>
opt (atI ([("NoPlace" : Str), ("NoRule" : Str)]) n136) >>= fun y142 =>
.ok y142))
else (
bad)))
def sp_law_asked (mg : Str → Option Value) : Sp := fun vs H Q E => ∃ (F : Hp) (v_tree : V) (x_tree : ((List Int) × (List (T3 Int Int Int)))) (v_rule : V) (x_rule : (T4 (List Sm) (List Sm) (List Sm) Sm)) (x_one : Int) (x_other : Int) (x_way : Int), vs = [v_tree, v_rule, V.int x_one, V.int x_other, V.int x_way] ∧ Pre F [] H ∧ R (a := ((List Int) × (List (T3 Int Int Int)))) F v_tree x_tree ∧ R (a := (T4 (List Sm) (List Sm) (List Sm) Sm)) F v_rule x_rule ∧
  wp (m_law_asked x_tree x_rule x_one x_other x_way) (fun r => ∀ (F' H' : Hp), Gr [] F H F' H' → Q (V.str r) H')
  (fun n => ∀ (C : Addr) (H' : Hp), mg (Str.ofString n) = some (.ref C) → Kp [] H H' → E (.ref C) none H')
set_option maxHeartbeats 2000000 in
theorem ok_law_asked (nb : Nb mg) (C_branch_row : Ca P w K mg base "branch_row" 77 ["tree", "rule", "branch"] (sp_branch_row mg)) (C_seat_worth : Ca P w K mg base "seat_worth" 77 ["tree", "rule", "place"] (sp_seat_worth mg)) (C_tied_to : Ca P w K mg base "tied_to" 2 ["tree", "place"] (sp_tied_to mg)) (C_way_between : Ca P w K mg base "way_between" 2 ["tree", "one", "other"] (sp_way_between mg)) (EX : ExAll K mg) (D : Df K mg "_law_asked" "_law_asked" s_law_asked ["tree", "rule", "one", "other", "way"]) : Ca P w K mg base "_law_asked" 78 ["tree", "rule", "one", "other", "way"] (sp_law_asked mg) := by
  obtain ⟨fa_branch_row, fd_branch_row, G_branch_row, M_branch_row, K_branch_row, B_branch_row⟩ := C_branch_row.ex
  obtain ⟨fa_seat_worth, fd_seat_worth, G_seat_worth, M_seat_worth, K_seat_worth, B_seat_worth⟩ := C_seat_worth.ex
  obtain ⟨fa_tied_to, fd_tied_to, G_tied_to, M_tied_to, K_tied_to, B_tied_to⟩ := C_tied_to.ex
  obtain ⟨fa_way_between, fd_way_between, G_way_between, M_way_between, K_way_between, B_way_between⟩ := C_way_between.ex
  obtain ⟨C_SeatError, C_NoPlace, C_NoRule, C_NoForm, C_NoLength, C_NoName, C_NoOrder, C_NoPaper, C_NoText, C_NoTie, C_NoTree, XX⟩ := EX.ex
  refine Ca.mk' D sc_law_asked (fun vs H Q E h => ?_) (fun q_ f_ cdv A outer s H vs Q E hr h => ?_)
  · obtain ⟨F, _, _, _, _, _, _, _, rfl, _⟩ := h
    rfl
  · obtain ⟨F, v_tree, x_tree, v_rule, x_rule, x_one, x_other, x_way, rfl, P0, f_tree, f_rule, hk⟩ := h
    have nd := sc_law_asked.nd
    have hu64 := hr.units
    have hu128 := hu128_of hr
    have O := P0.start
    refine ⟨_, (pss_cons (ps_set (i := 5) nd rfl (Or.inl rfl) pe_non)
  (pss_cons (ps_try_keep (i := 7) rfl rfl rfl nd rfl rfl ⟨by rfl, by decide +kernel, .inl XX.g_SeatError⟩ (takes_of rfl rfl rfl rfl) (fun W_ pn_ xe_ tk_ pas_ => (pss_one (ps_if (pt_cmpR (op_eqT Int hu64) (pv 4) pe_int (nomark _)) (pss_one (ps_expr (pe_callW G_tied_to (hr.mono (by decide)) rfl M_tied_to K_tied_to B_tied_to tk_ (pa_cons (pv 0) (pa_cons (pv 2) pa_nil))))) (pss_one (ps_if (pt_cmpR (op_eqT Int hu64) (pv 4) pe_int (nomark _)) (pss_one (ps_expr (pe_callW G_way_between (hr.mono (by decide)) rfl M_way_between K_way_between B_way_between tk_ (pa_cons (pv 0) (pa_cons (pv 2) (pa_cons (pv 3) pa_nil)))))) (pss_one (ps_if (pt_cmpR (op_eqT Int hu64) (pv 4) pe_int (nomark _)) (pss_one (ps_expr (pe_callW G_seat_worth (hr.mono (by decide)) rfl M_seat_worth K_seat_worth B_seat_worth tk_ (pa_cons (pv 0) (pa_cons (pv 1) (pa_cons (pv 2) pa_nil)))))) (pss_one (ps_expr (pe_callW G_branch_row (hr.mono (by decide)) rfl M_branch_row K_branch_row B_branch_row tk_ (pa_cons (pv 0) (pa_cons (pv 1) (pa_cons (pe_tup (pa_cons (pv 2) (pa_cons (pv 3) pa_nil))) pa_nil))))))))))))) (fun a_ o_ pn_ => (pss_one (ps_set (i := 5) nd rfl (Or.inl rfl) (pv 7)))))
  (pss_cons (ps_if (pt_val (pe_callB (isutK (K := K) rfl) (by rfl) nb.b_isinstance (by decide +kernel) (pa_cons (pv 5) (pa_cons (pe_tup (pa_cons (C8.pe_gc (v := .ref C_NoForm) (by rfl) ⟨_, XX.g_NoForm, rfl⟩) (pa_cons (C8.pe_gc (v := .ref C_NoLength) (by rfl) ⟨_, XX.g_NoLength, rfl⟩) (pa_cons (C8.pe_gc (v := .ref C_NoName) (by rfl) ⟨_, XX.g_NoName, rfl⟩) (pa_cons (C8.pe_gc (v := .ref C_NoOrder) (by rfl) ⟨_, XX.g_NoOrder, rfl⟩) (pa_cons (C8.pe_gc (v := .ref C_NoPaper) (by rfl) ⟨_, XX.g_NoPaper, rfl⟩) (pa_cons (C8.pe_gc (v := .ref C_NoText) (by rfl) ⟨_, XX.g_NoText, rfl⟩) (pa_cons (C8.pe_gc (v := .ref C_NoTie) (by rfl) ⟨_, XX.g_NoTie, rfl⟩) (pa_cons (C8.pe_gc (v := .ref C_NoTree) (by rfl) ⟨_, XX.g_NoTree, rfl⟩) pa_nil))))))))) pa_nil)))) (pss_one (ps_ret pe_str)) pss_nil)
  (pss_cons (ps_set (i := 6) nd rfl (Or.inl rfl) (pe_lst (pa_cons (pe_callB (isuK (K := K) rfl) (by rfl) nb.b_isinstance (by decide +kernel) (pa_cons (pv 5) (pa_cons (C8.pe_gc (v := .ref C_NoPlace) (by rfl) ⟨_, XX.g_NoPlace, rfl⟩) pa_nil))) (pa_cons (pe_callB (isuK (K := K) rfl) (by rfl) nb.b_isinstance (by decide +kernel) (pa_cons (pv 5) (pa_cons (C8.pe_gc (v := .ref C_NoRule) (by rfl) ⟨_, XX.g_NoRule, rfl⟩) pa_nil))) pa_nil))))
  (pss_cons (ps_if (PW.pt (pw_or (pt_not (pt_val (pe_callB (isuK (K := K) rfl) (by rfl) nb.b_isinstance (by decide +kernel) (pa_cons (pv 5) (pa_cons (pe_bltn (v := .ty "ValueError") (by rfl) nb.b_ValueError (by decide +kernel) rfl) pa_nil))))) (pw_or1 (pt_cmpR (op_neT Int hu64) (pe_bm PySem.F.plainAttrs_list PySem.F.slot_list_count PySem.F.type_list_count (countBK (K := K) rfl) (pv 6) (pa_cons pe_bl pa_nil)) pe_int (nomark _))))) (pss_one (ps_ret pe_str)) pss_nil)
  (pss_one (ps_ret (pe_ix (ixListK (K := K) rfl) (pe_lst (pa_cons pe_str (pa_cons pe_str pa_nil))) (pe_bm PySem.F.plainAttrs_list PySem.F.slot_list_index PySem.F.type_list_index (indexK (K := K) rfl) (pv 6) (pa_cons pe_bl pa_nil)) (fun _ _ => rfl))))))))), ?_⟩
    have hk := wp_tryK hk
    refine ⟨_, rfl, _, _, R.int, R.int, _, rfl, ?_⟩
    refine iteD (fun q1 => ?_) (fun q1 => ?_)
    · have hk := wp_if hk q1
      refine ⟨_, rfl, _, rfl, _, _, _, _, rfl, O.pre0, f_tree, wp_call hk (fun r2 er3 hk F4 H5 g6 p7 w8 hn9 hf10 h11 hl12 => ?_) (fun n_ hn_ C_ H1_ hC_ kp_ => ?_)⟩
      · have O13 := O.call0 g6
        have S_ := g6.f
        have f_tree := f_tree.mono S_
        have f_rule := f_rule.mono S_
        have O14 := O.got O13 rfl hn9 hf10 h11
        have z15 := O.was hn9
        obtain ⟨F16, O17, S18, h19⟩ := O14.frzE 0 rfl z15
        have f_tree := f_tree.mono S18
        have f_rule := f_rule.mono S18
        have hl12 := hl12.mono S18
        have h20 := R.lst (a := Int) h19 hl12
        have hk := wp_okE hk
        refine ⟨_, rfl, (by show 8 ≤ sizeLine; decide), fun p21 hp22 => ?_⟩
        obtain ⟨F23, O24, S25, h26⟩ := O17.putE hp22 (.tup [V.ref C_NoForm, V.ref C_NoLength, V.ref C_NoName, V.ref C_NoOrder, V.ref C_NoPaper, V.ref C_NoText, V.ref C_NoTie, V.ref C_NoTree])
        have f_tree := f_tree.mono S25
        have f_rule := f_rule.mono S25
        have h20 := h20.mono S25
        refine ⟨_, _, _, _, _, false, rfl, (O24.s _ _ h26), (.cons (.own _) (.cons (.own _) (.cons (.own _) (.cons (.own _) (.cons (.own _) (.cons (.own _) (.cons (.own _) (.cons (.own _) .nil)))))))), (.base (.base .non)), (any_no (kit_own XX.d_NoForm XX.t_NoForm XX.n_NoForm XX.s_NoForm_NoForm) (any_no (kit_own XX.d_NoLength XX.t_NoLength XX.n_NoLength XX.s_NoLength_NoLength) (any_no (kit_own XX.d_NoName XX.t_NoName XX.n_NoName XX.s_NoName_NoName) (any_no (kit_own XX.d_NoOrder XX.t_NoOrder XX.n_NoOrder XX.s_NoOrder_NoOrder) (any_no (kit_own XX.d_NoPaper XX.t_NoPaper XX.n_NoPaper XX.s_NoPaper_NoPaper) (any_no (kit_own XX.d_NoText XX.t_NoText XX.n_NoText XX.s_NoText_NoText) (any_no (kit_own XX.d_NoTie XX.t_NoTie XX.n_NoTie XX.s_NoTie_NoTie) (any_no (kit_own XX.d_NoTree XX.t_NoTree XX.n_NoTree XX.s_NoTree_NoTree) kitAny_nil)))))))), _, rfl, ?_⟩
        refine iteF ?_
        refine ⟨_, rfl, _, _, _, _, false, rfl, (.own _), (.base (.base .non)), (kit_own XX.d_NoPlace XX.t_NoPlace XX.n_NoPlace XX.s_NoPlace_NoPlace), _, rfl, _, _, _, _, false, rfl, (.own _), (.base (.base .non)), (kit_own XX.d_NoRule XX.t_NoRule XX.n_NoRule XX.s_NoRule_NoRule), (by show 2 ≤ sizeLine; decide), fun p27 hp28 => ?_⟩
        have hl34 : RL (a := Bool) F23 ([V.bl false, V.bl false]) ([false, false]) := RL.cons R.bl (RL.cons R.bl RL.nil)
        obtain ⟨F29, O30, S31, h32⟩ := O24.putE hp28 (.lst ([V.bl false, V.bl false]))
        have f_tree := f_tree.mono S31
        have f_rule := f_rule.mono S31
        have h20 := h20.mono S31
        have h26 := S31 _ _ h26
        have hl34 := hl34.mono S31
        have h33 := R.lst (a := Bool) h32 hl34
        refine ⟨_, rfl, _, _, _, _, false, rfl, (.ty _), (.base (.base .non)), (kit_ty (by decide +kernel)), _, rfl, ?_⟩
        refine iteNF ?_
        refine iteT ?_
        exact hk _ _  O30.g 
      · obtain ⟨hm_, hk⟩ := hn_
        rcases mem2 hm_ with rfl | rfl
        · have hk := wp_if hk rfl
          have eC_ := XX.g_NoPlace.symm.trans hC_
          cases eC_
          have O35 := O.exc kp_
          refine ⟨true, PySem.W.exm_ref XX.b_SeatError XX.d_SeatError XX.t_SeatError XX.s_NoPlace_SeatError, fun _ a36 ha37 => ?_, fun z => nomatch z⟩
          refine ⟨_, rfl, ?_⟩
          obtain ⟨F38, O39, S40, h41⟩ := O35.putE ha37 (excO (.ref C_NoPlace) none a36)
          have f_tree := f_tree.mono S40
          have f_rule := f_rule.mono S40
          refine ⟨_, rfl, (by show 8 ≤ sizeLine; decide), fun p42 hp43 => ?_⟩
          obtain ⟨F44, O45, S46, h47⟩ := O39.putE hp43 (.tup [V.ref C_NoForm, V.ref C_NoLength, V.ref C_NoName, V.ref C_NoOrder, V.ref C_NoPaper, V.ref C_NoText, V.ref C_NoTie, V.ref C_NoTree])
          have f_tree := f_tree.mono S46
          have f_rule := f_rule.mono S46
          have h41 := S46 _ _ h41
          refine ⟨_, _, _, _, _, false, rfl, (O45.s _ _ h47), (.cons (.own _) (.cons (.own _) (.cons (.own _) (.cons (.own _) (.cons (.own _) (.cons (.own _) (.cons (.own _) (.cons (.own _) .nil)))))))), (.exc (O45.s _ _ h41) XX.e_NoPlace), (any_no (kit_own XX.d_NoForm XX.t_NoForm XX.s_NoPlace_NoForm XX.s_NoForm_NoForm) (any_no (kit_own XX.d_NoLength XX.t_NoLength XX.s_NoPlace_NoLength XX.s_NoLength_NoLength) (any_no (kit_own XX.d_NoName XX.t_NoName XX.s_NoPlace_NoName XX.s_NoName_NoName) (any_no (kit_own XX.d_NoOrder XX.t_NoOrder XX.s_NoPlace_NoOrder XX.s_NoOrder_NoOrder) (any_no (kit_own XX.d_NoPaper XX.t_NoPaper XX.s_NoPlace_NoPaper XX.s_NoPaper_NoPaper) (any_no (kit_own XX.d_NoText XX.t_NoText XX.s_NoPlace_NoText XX.s_NoText_NoText) (any_no (kit_own XX.d_NoTie XX.t_NoTie XX.s_NoPlace_NoTie XX.s_NoTie_NoTie) (any_no (kit_own XX.d_NoTree XX.t_NoTree XX.s_NoPlace_NoTree XX.s_NoTree_NoTree) kitAny_nil)))))))), _, rfl, ?_⟩
          refine iteF ?_
          refine ⟨_, rfl, _, _, _, _, true, rfl, (.own _), (.exc (O45.s _ _ h41) XX.e_NoPlace), (kit_own XX.d_NoPlace XX.t_NoPlace XX.s_NoPlace_NoPlace XX.s_NoPlace_NoPlace), _, rfl, _, _, _, _, false, rfl, (.own _), (.exc (O45.s _ _ h41) XX.e_NoPlace), (kit_own XX.d_NoRule XX.t_NoRule XX.s_NoPlace_NoRule XX.s_NoRule_NoRule), (by show 2 ≤ sizeLine; decide), fun p48 hp49 => ?_⟩
          have hl55 : RL (a := Bool) F44 ([V.bl true, V.bl false]) ([true, false]) := RL.cons R.bl (RL.cons R.bl RL.nil)
          obtain ⟨F50, O51, S52, h53⟩ := O45.putE hp49 (.lst ([V.bl true, V.bl false]))
          have f_tree := f_tree.mono S52
          have f_rule := f_rule.mono S52
          have h41 := S52 _ _ h41
          have h47 := S52 _ _ h47
          have hl55 := hl55.mono S52
          have h54 := R.lst (a := Bool) h53 hl55
          refine ⟨_, rfl, _, _, _, _, true, rfl, (.ty _), (.exc (O51.s _ _ h41) XX.e_NoPlace), (kit_blt (by decide +kernel) XX.v_NoPlace), _, rfl, ?_⟩
          refine iteNT ?_
          obtain ⟨p56, w57, e58, h59, hl60⟩ := R.lst_ h54
          cases e58
          refine ⟨_, rfl, (.inl ⟨rfl, _, (SqLF O51.s h59)⟩), _, ([true, false]), _, rfl, rfl, (by rw [← RL.bools hl60]; exact (SqLF O51.s h59)), _, _, R.int, R.int, _, rfl, ?_⟩
          refine iteD (fun q61 => ?_) (fun q61 => ?_)
          · have hk := wp_if hk q61
            exact hk _ _  O51.g 
          · have hk := wp_el hk q61
            refine ⟨(by show 2 ≤ sizeLine; decide), fun p62 hp63 => ?_⟩
            have hl69 : RL (a := Str) F50 ([V.str ("NoPlace" : Str), V.str ("NoRule" : Str)]) ([("NoPlace" : Str), ("NoRule" : Str)]) := RL.cons R.str (RL.cons R.str RL.nil)
            obtain ⟨F64, O65, S66, h67⟩ := O51.putE hp63 (.lst ([V.str ("NoPlace" : Str), V.str ("NoRule" : Str)]))
            have f_tree := f_tree.mono S66
            have f_rule := f_rule.mono S66
            have h41 := S66 _ _ h41
            have h47 := S66 _ _ h47
            have h54 := h54.mono S66
            have h59 := S66 _ _ h59
            have hl60 := hl60.mono S66
            have hl69 := hl69.mono S66
            have h68 := R.lst (a := Str) h67 hl69
            obtain ⟨p70, w71, e72, h73, hl74⟩ := R.lst_ h54
            cases e72
            obtain ⟨j75, e76, e77, e78, hk⟩ := wp_ixB hk
            have hw79 := RL.bools hl74
            obtain ⟨n80, hn_⟩ : ∃ z_, z_ = (j75 : Int) := ⟨_, rfl⟩
            rw [← hn_] at hk
            refine ⟨_, rfl, (.inl ⟨rfl, _, (SqLF O65.s h73)⟩), _, _, _, j75, _, rfl, rfl, (SqLF O65.s h73), rfl, (by rw [hw79]; exact all_flat_bl _), (by rw [hw79]; exact bl_at e77), bl_eq, (by rw [hw79]; exact bl_noeq e78), ?_⟩
            rw [← hn_]
            obtain ⟨p81, w82, e83, h84, hl85⟩ := R.lst_ h68
            cases e83
            obtain ⟨y86, e87, hk⟩ := wp_opt hk
            obtain ⟨w88, e89, r90⟩ := hl85.atI e87
            obtain rfl := R.str_ r90
            refine ⟨_, _, _, _, rfl, rfl, (SqLF O65.s h84), e89, ?_⟩
            exact hk _ _  O65.g 
        · have hk := wp_el hk (by decide)
          have hk := wp_if hk rfl
          have eC_ := XX.g_NoRule.symm.trans hC_
          cases eC_
          have O91 := O.exc kp_
          refine ⟨true, PySem.W.exm_ref XX.b_SeatError XX.d_SeatError XX.t_SeatError XX.s_NoRule_SeatError, fun _ a92 ha93 => ?_, fun z => nomatch z⟩
          refine ⟨_, rfl, ?_⟩
          obtain ⟨F94, O95, S96, h97⟩ := O91.putE ha93 (excO (.ref C_NoRule) none a92)
          have f_tree := f_tree.mono S96
          have f_rule := f_rule.mono S96
          refine ⟨_, rfl, (by show 8 ≤ sizeLine; decide), fun p98 hp99 => ?_⟩
          obtain ⟨F100, O101, S102, h103⟩ := O95.putE hp99 (.tup [V.ref C_NoForm, V.ref C_NoLength, V.ref C_NoName, V.ref C_NoOrder, V.ref C_NoPaper, V.ref C_NoText, V.ref C_NoTie, V.ref C_NoTree])
          have f_tree := f_tree.mono S102
          have f_rule := f_rule.mono S102
          have h97 := S102 _ _ h97
          refine ⟨_, _, _, _, _, false, rfl, (O101.s _ _ h103), (.cons (.own _) (.cons (.own _) (.cons (.own _) (.cons (.own _) (.cons (.own _) (.cons (.own _) (.cons (.own _) (.cons (.own _) .nil)))))))), (.exc (O101.s _ _ h97) XX.e_NoRule), (any_no (kit_own XX.d_NoForm XX.t_NoForm XX.s_NoRule_NoForm XX.s_NoForm_NoForm) (any_no (kit_own XX.d_NoLength XX.t_NoLength XX.s_NoRule_NoLength XX.s_NoLength_NoLength) (any_no (kit_own XX.d_NoName XX.t_NoName XX.s_NoRule_NoName XX.s_NoName_NoName) (any_no (kit_own XX.d_NoOrder XX.t_NoOrder XX.s_NoRule_NoOrder XX.s_NoOrder_NoOrder) (any_no (kit_own XX.d_NoPaper XX.t_NoPaper XX.s_NoRule_NoPaper XX.s_NoPaper_NoPaper) (any_no (kit_own XX.d_NoText XX.t_NoText XX.s_NoRule_NoText XX.s_NoText_NoText) (any_no (kit_own XX.d_NoTie XX.t_NoTie XX.s_NoRule_NoTie XX.s_NoTie_NoTie) (any_no (kit_own XX.d_NoTree XX.t_NoTree XX.s_NoRule_NoTree XX.s_NoTree_NoTree) kitAny_nil)))))))), _, rfl, ?_⟩
          refine iteF ?_
          refine ⟨_, rfl, _, _, _, _, false, rfl, (.own _), (.exc (O101.s _ _ h97) XX.e_NoRule), (kit_own XX.d_NoPlace XX.t_NoPlace XX.s_NoRule_NoPlace XX.s_NoPlace_NoPlace), _, rfl, _, _, _, _, true, rfl, (.own _), (.exc (O101.s _ _ h97) XX.e_NoRule), (kit_own XX.d_NoRule XX.t_NoRule XX.s_NoRule_NoRule XX.s_NoRule_NoRule), (by show 2 ≤ sizeLine; decide), fun p104 hp105 => ?_⟩
          have hl111 : RL (a := Bool) F100 ([V.bl false, V.bl true]) ([false, true]) := RL.cons R.bl (RL.cons R.bl RL.nil)
          obtain ⟨F106, O107, S108, h109⟩ := O101.putE hp105 (.lst ([V.bl false, V.bl true]))
          have f_tree := f_tree.mono S108
          have f_rule := f_rule.mono S108
          have h97 := S108 _ _ h97
          have h103 := S108 _ _ h103
          have hl111 := hl111.mono S108
          have h110 := R.lst (a := Bool) h109 hl111
          refine ⟨_, rfl, _, _, _, _, true, rfl, (.ty _), (.exc (O107.s _ _ h97) XX.e_NoRule), (kit_blt (by decide +kernel) XX.v_NoRule), _, rfl, ?_⟩
          refine iteNT ?_
          obtain ⟨p112, w113, e114, h115, hl116⟩ := R.lst_ h110
          cases e114
          refine ⟨_, rfl, (.inl ⟨rfl, _, (SqLF O107.s h115)⟩), _, ([false, true]), _, rfl, rfl, (by rw [← RL.bools hl116]; exact (SqLF O107.s h115)), _, _, R.int, R.int, _, rfl, ?_⟩
          refine iteD (fun q117 => ?_) (fun q117 => ?_)
          · have hk := wp_if hk q117
            exact hk _ _  O107.g 
          · have hk := wp_el hk q117
            refine ⟨(by show 2 ≤ sizeLine; decide), fun p118 hp119 => ?_⟩
            have hl125 : RL (a := Str) F106 ([V.str ("NoPlace" : Str), V.str ("NoRule" : Str)]) ([("NoPlace" : Str), ("NoRule" : Str)]) := RL.cons R.str (RL.cons R.str RL.nil)
            obtain ⟨F120, O121, S122, h123⟩ := O107.putE hp119 (.lst ([V.str ("NoPlace" : Str), V.str ("NoRule" : Str)]))
            have f_tree := f_tree.mono S122
            have f_rule := f_rule.mono S122
            have h97 := S122 _ _ h97
            have h103 := S122 _ _ h103
            have h110 := h110.mono S122
            have h115 := S122 _ _ h115
            have hl116 := hl116.mono S122
            have hl125 := hl125.mono S122
            have h124 := R.lst (a := Str) h123 hl125
            obtain ⟨p126, w127, e128, h129, hl130⟩ := R.lst_ h110
            cases e128
            obtain ⟨j131, e132, e133, e134, hk⟩ := wp_ixB hk
            have hw135 := RL.bools hl130
            obtain ⟨n136, hn_⟩ : ∃ z_, z_ = (j131 : Int) := ⟨_, rfl⟩
            rw [← hn_] at hk
            refine ⟨_, rfl, (.inl ⟨rfl, _, (SqLF O121.s h129)⟩), _, _, _, j131, _, rfl, rfl, (SqLF O121.s h129), rfl, (by rw [hw135]; exact all_flat_bl _), (by rw [hw135]; exact bl_at e133), bl_eq, (by rw [hw135]; exact bl_noeq e134), ?_⟩
            rw [← hn_]
            obtain ⟨p137, w138, e139, h140, hl141⟩ := R.lst_ h124
            cases e139
            obtain ⟨y142, e143, hk⟩ := wp_opt hk
            obtain ⟨w144, e145, r146⟩ := hl141.atI e143
            obtain rfl := R.str_ r146
            refine ⟨_, _, _, _, rfl, rfl, (SqLF O121.s h140), e145, ?_⟩
            exact hk _ _  O121.g 
    · have hk := wp_el hk q1
      refine ⟨_, rfl, _, _, R.int, R.int, _, rfl, ?_⟩
      refine iteD (fun q147 => ?_) (fun q147 => ?_)
      · have hk := wp_if hk q147
        refine ⟨_, rfl, _, rfl, _, rfl, _, _, _, _, _, rfl, O.pre0, f_tree, wp_call hk (fun r148 er149 hk F150 H151 g152 p153 p154 w155 hn156 hf157 h158 hl159 h161 => ?_) (fun n_ hn_ C_ H1_ hC_ kp_ => ?_)⟩
        · have O162 := O.call0 g152
          have S_ := g152.f
          have f_tree := f_tree.mono S_
          have f_rule := f_rule.mono S_
          have z164 := O.was hn156
          have O163 := O162.add' (O.fresh hn156) z164 hf157 h158
          have hk := wp_okE hk
          refine ⟨_, rfl, (by show 8 ≤ sizeLine; decide), fun p166 hp167 => ?_⟩
          obtain ⟨F168, O169, S170, h171⟩ := O163.putE hp167 (.tup [V.ref C_NoForm, V.ref C_NoLength, V.ref C_NoName, V.ref C_NoOrder, V.ref C_NoPaper, V.ref C_NoText, V.ref C_NoTie, V.ref C_NoTree])
          have f_tree := f_tree.mono S170
          have f_rule := f_rule.mono S170
          have hl159 := hl159.mono S170
          have h161 := S170 _ _ h161
          refine ⟨_, _, _, _, _, false, rfl, (O169.s _ _ h171), (.cons (.own _) (.cons (.own _) (.cons (.own _) (.cons (.own _) (.cons (.own _) (.cons (.own _) (.cons (.own _) (.cons (.own _) .nil)))))))), (.base (.base .non)), (any_no (kit_own XX.d_NoForm XX.t_NoForm XX.n_NoForm XX.s_NoForm_NoForm) (any_no (kit_own XX.d_NoLength XX.t_NoLength XX.n_NoLength XX.s_NoLength_NoLength) (any_no (kit_own XX.d_NoName XX.t_NoName XX.n_NoName XX.s_NoName_NoName) (any_no (kit_own XX.d_NoOrder XX.t_NoOrder XX.n_NoOrder XX.s_NoOrder_NoOrder) (any_no (kit_own XX.d_NoPaper XX.t_NoPaper XX.n_NoPaper XX.s_NoPaper_NoPaper) (any_no (kit_own XX.d_NoText XX.t_NoText XX.n_NoText XX.s_NoText_NoText) (any_no (kit_own XX.d_NoTie XX.t_NoTie XX.n_NoTie XX.s_NoTie_NoTie) (any_no (kit_own XX.d_NoTree XX.t_NoTree XX.n_NoTree XX.s_NoTree_NoTree) kitAny_nil)))))))), _, rfl, ?_⟩
          refine iteF ?_
          refine ⟨_, rfl, _, _, _, _, false, rfl, (.own _), (.base (.base .non)), (kit_own XX.d_NoPlace XX.t_NoPlace XX.n_NoPlace XX.s_NoPlace_NoPlace), _, rfl, _, _, _, _, false, rfl, (.own _), (.base (.base .non)), (kit_own XX.d_NoRule XX.t_NoRule XX.n_NoRule XX.s_NoRule_NoRule), (by show 2 ≤ sizeLine; decide), fun p172 hp173 => ?_⟩
          have hl179 : RL (a := Bool) F168 ([V.bl false, V.bl false]) ([false, false]) := RL.cons R.bl (RL.cons R.bl RL.nil)
          obtain ⟨F174, O175, S176, h177⟩ := O169.putE hp173 (.lst ([V.bl false, V.bl false]))
          have f_tree := f_tree.mono S176
          have f_rule := f_rule.mono S176
          have hl159 := hl159.mono S176
          have h161 := S176 _ _ h161
          have h171 := S176 _ _ h171
          have hl179 := hl179.mono S176
          have h178 := R.lst (a := Bool) h177 hl179
          refine ⟨_, rfl, _, _, _, _, false, rfl, (.ty _), (.base (.base .non)), (kit_ty (by decide +kernel)), _, rfl, ?_⟩
          refine iteNF ?_
          refine iteT ?_
          exact hk _ _  O175.g 
        · obtain ⟨hm_, hk⟩ := hn_
          rcases mem2 hm_ with rfl | rfl
          · have hk := wp_if hk rfl
            have eC_ := XX.g_NoPlace.symm.trans hC_
            cases eC_
            have O180 := O.exc kp_
            refine ⟨true, PySem.W.exm_ref XX.b_SeatError XX.d_SeatError XX.t_SeatError XX.s_NoPlace_SeatError, fun _ a181 ha182 => ?_, fun z => nomatch z⟩
            refine ⟨_, rfl, ?_⟩
            obtain ⟨F183, O184, S185, h186⟩ := O180.putE ha182 (excO (.ref C_NoPlace) none a181)
            have f_tree := f_tree.mono S185
            have f_rule := f_rule.mono S185
            refine ⟨_, rfl, (by show 8 ≤ sizeLine; decide), fun p187 hp188 => ?_⟩
            obtain ⟨F189, O190, S191, h192⟩ := O184.putE hp188 (.tup [V.ref C_NoForm, V.ref C_NoLength, V.ref C_NoName, V.ref C_NoOrder, V.ref C_NoPaper, V.ref C_NoText, V.ref C_NoTie, V.ref C_NoTree])
            have f_tree := f_tree.mono S191
            have f_rule := f_rule.mono S191
            have h186 := S191 _ _ h186
            refine ⟨_, _, _, _, _, false, rfl, (O190.s _ _ h192), (.cons (.own _) (.cons (.own _) (.cons (.own _) (.cons (.own _) (.cons (.own _) (.cons (.own _) (.cons (.own _) (.cons (.own _) .nil)))))))), (.exc (O190.s _ _ h186) XX.e_NoPlace), (any_no (kit_own XX.d_NoForm XX.t_NoForm XX.s_NoPlace_NoForm XX.s_NoForm_NoForm) (any_no (kit_own XX.d_NoLength XX.t_NoLength XX.s_NoPlace_NoLength XX.s_NoLength_NoLength) (any_no (kit_own XX.d_NoName XX.t_NoName XX.s_NoPlace_NoName XX.s_NoName_NoName) (any_no (kit_own XX.d_NoOrder XX.t_NoOrder XX.s_NoPlace_NoOrder XX.s_NoOrder_NoOrder) (any_no (kit_own XX.d_NoPaper XX.t_NoPaper XX.s_NoPlace_NoPaper XX.s_NoPaper_NoPaper) (any_no (kit_own XX.d_NoText XX.t_NoText XX.s_NoPlace_NoText XX.s_NoText_NoText) (any_no (kit_own XX.d_NoTie XX.t_NoTie XX.s_NoPlace_NoTie XX.s_NoTie_NoTie) (any_no (kit_own XX.d_NoTree XX.t_NoTree XX.s_NoPlace_NoTree XX.s_NoTree_NoTree) kitAny_nil)))))))), _, rfl, ?_⟩
            refine iteF ?_
            refine ⟨_, rfl, _, _, _, _, true, rfl, (.own _), (.exc (O190.s _ _ h186) XX.e_NoPlace), (kit_own XX.d_NoPlace XX.t_NoPlace XX.s_NoPlace_NoPlace XX.s_NoPlace_NoPlace), _, rfl, _, _, _, _, false, rfl, (.own _), (.exc (O190.s _ _ h186) XX.e_NoPlace), (kit_own XX.d_NoRule XX.t_NoRule XX.s_NoPlace_NoRule XX.s_NoRule_NoRule), (by show 2 ≤ sizeLine; decide), fun p193 hp194 => ?_⟩
            have hl200 : RL (a := Bool) F189 ([V.bl true, V.bl false]) ([true, false]) := RL.cons R.bl (RL.cons R.bl RL.nil)
            obtain ⟨F195, O196, S197, h198⟩ := O190.putE hp194 (.lst ([V.bl true, V.bl false]))
            have f_tree := f_tree.mono S197
            have f_rule := f_rule.mono S197
            have h186 := S197 _ _ h186
            have h192 := S197 _ _ h192
            have hl200 := hl200.mono S197
            have h199 := R.lst (a := Bool) h198 hl200
            refine ⟨_, rfl, _, _, _, _, true, rfl, (.ty _), (.exc (O196.s _ _ h186) XX.e_NoPlace), (kit_blt (by decide +kernel) XX.v_NoPlace), _, rfl, ?_⟩
            refine iteNT ?_
            obtain ⟨p201, w202, e203, h204, hl205⟩ := R.lst_ h199
            cases e203
            refine ⟨_, rfl, (.inl ⟨rfl, _, (SqLF O196.s h204)⟩), _, ([true, false]), _, rfl, rfl, (by rw [← RL.bools hl205]; exact (SqLF O196.s h204)), _, _, R.int, R.int, _, rfl, ?_⟩
            refine iteD (fun q206 => ?_) (fun q206 => ?_)
            · have hk := wp_if hk q206
              exact hk _ _  O196.g 
            · have hk := wp_el hk q206
              refine ⟨(by show 2 ≤ sizeLine; decide), fun p207 hp208 => ?_⟩
              have hl214 : RL (a := Str) F195 ([V.str ("NoPlace" : Str), V.str ("NoRule" : Str)]) ([("NoPlace" : Str), ("NoRule" : Str)]) := RL.cons R.str (RL.cons R.str RL.nil)
              obtain ⟨F209, O210, S211, h212⟩ := O196.putE hp208 (.lst ([V.str ("NoPlace" : Str), V.str ("NoRule" : Str)]))
              have f_tree := f_tree.mono S211
              have f_rule := f_rule.mono S211
              have h186 := S211 _ _ h186
              have h192 := S211 _ _ h192
              have h199 := h199.mono S211
              have h204 := S211 _ _ h204
              have hl205 := hl205.mono S211
              have hl214 := hl214.mono S211
              have h213 := R.lst (a := Str) h212 hl214
              obtain ⟨p215, w216, e217, h218, hl219⟩ := R.lst_ h199
              cases e217
              obtain ⟨j220, e221, e222, e223, hk⟩ := wp_ixB hk
              have hw224 := RL.bools hl219
              obtain ⟨n225, hn_⟩ : ∃ z_, z_ = (j220 : Int) := ⟨_, rfl⟩
              rw [← hn_] at hk
              refine ⟨_, rfl, (.inl ⟨rfl, _, (SqLF O210.s h218)⟩), _, _, _, j220, _, rfl, rfl, (SqLF O210.s h218), rfl, (by rw [hw224]; exact all_flat_bl _), (by rw [hw224]; exact bl_at e222), bl_eq, (by rw [hw224]; exact bl_noeq e223), ?_⟩
              rw [← hn_]
              obtain ⟨p226, w227, e228, h229, hl230⟩ := R.lst_ h213
              cases e228
              obtain ⟨y231, e232, hk⟩ := wp_opt hk
              obtain ⟨w233, e234, r235⟩ := hl230.atI e232
              obtain rfl := R.str_ r235
              refine ⟨_, _, _, _, rfl, rfl, (SqLF O210.s h229), e234, ?_⟩
              exact hk _ _  O210.g 
          · have hk := wp_el hk (by decide)
            have hk := wp_if hk rfl
            have eC_ := XX.g_NoRule.symm.trans hC_
            cases eC_
            have O236 := O.exc kp_
            refine ⟨true, PySem.W.exm_ref XX.b_SeatError XX.d_SeatError XX.t_SeatError XX.s_NoRule_SeatError, fun _ a237 ha238 => ?_, fun z => nomatch z⟩
            refine ⟨_, rfl, ?_⟩
            obtain ⟨F239, O240, S241, h242⟩ := O236.putE ha238 (excO (.ref C_NoRule) none a237)
            have f_tree := f_tree.mono S241
            have f_rule := f_rule.mono S241
            refine ⟨_, rfl, (by show 8 ≤ sizeLine; decide), fun p243 hp244 => ?_⟩
            obtain ⟨F245, O246, S247, h248⟩ := O240.putE hp244 (.tup [V.ref C_NoForm, V.ref C_NoLength, V.ref C_NoName, V.ref C_NoOrder, V.ref C_NoPaper, V.ref C_NoText, V.ref C_NoTie, V.ref C_NoTree])
            have f_tree := f_tree.mono S247
            have f_rule := f_rule.mono S247
            have h242 := S247 _ _ h242
            refine ⟨_, _, _, _, _, false, rfl, (O246.s _ _ h248), (.cons (.own _) (.cons (.own _) (.cons (.own _) (.cons (.own _) (.cons (.own _) (.cons (.own _) (.cons (.own _) (.cons (.own _) .nil)))))))), (.exc (O246.s _ _ h242) XX.e_NoRule), (any_no (kit_own XX.d_NoForm XX.t_NoForm XX.s_NoRule_NoForm XX.s_NoForm_NoForm) (any_no (kit_own XX.d_NoLength XX.t_NoLength XX.s_NoRule_NoLength XX.s_NoLength_NoLength) (any_no (kit_own XX.d_NoName XX.t_NoName XX.s_NoRule_NoName XX.s_NoName_NoName) (any_no (kit_own XX.d_NoOrder XX.t_NoOrder XX.s_NoRule_NoOrder XX.s_NoOrder_NoOrder) (any_no (kit_own XX.d_NoPaper XX.t_NoPaper XX.s_NoRule_NoPaper XX.s_NoPaper_NoPaper) (any_no (kit_own XX.d_NoText XX.t_NoText XX.s_NoRule_NoText XX.s_NoText_NoText) (any_no (kit_own XX.d_NoTie XX.t_NoTie XX.s_NoRule_NoTie XX.s_NoTie_NoTie) (any_no (kit_own XX.d_NoTree XX.t_NoTree XX.s_NoRule_NoTree XX.s_NoTree_NoTree) kitAny_nil)))))))), _, rfl, ?_⟩
            refine iteF ?_
            refine ⟨_, rfl, _, _, _, _, false, rfl, (.own _), (.exc (O246.s _ _ h242) XX.e_NoRule), (kit_own XX.d_NoPlace XX.t_NoPlace XX.s_NoRule_NoPlace XX.s_NoPlace_NoPlace), _, rfl, _, _, _, _, true, rfl, (.own _), (.exc (O246.s _ _ h242) XX.e_NoRule), (kit_own XX.d_NoRule XX.t_NoRule XX.s_NoRule_NoRule XX.s_NoRule_NoRule), (by show 2 ≤ sizeLine; decide), fun p249 hp250 => ?_⟩
            have hl256 : RL (a := Bool) F245 ([V.bl false, V.bl true]) ([false, true]) := RL.cons R.bl (RL.cons R.bl RL.nil)
            obtain ⟨F251, O252, S253, h254⟩ := O246.putE hp250 (.lst ([V.bl false, V.bl true]))
            have f_tree := f_tree.mono S253
            have f_rule := f_rule.mono S253
            have h242 := S253 _ _ h242
            have h248 := S253 _ _ h248
            have hl256 := hl256.mono S253
            have h255 := R.lst (a := Bool) h254 hl256
            refine ⟨_, rfl, _, _, _, _, true, rfl, (.ty _), (.exc (O252.s _ _ h242) XX.e_NoRule), (kit_blt (by decide +kernel) XX.v_NoRule), _, rfl, ?_⟩
            refine iteNT ?_
            obtain ⟨p257, w258, e259, h260, hl261⟩ := R.lst_ h255
            cases e259
            refine ⟨_, rfl, (.inl ⟨rfl, _, (SqLF O252.s h260)⟩), _, ([false, true]), _, rfl, rfl, (by rw [← RL.bools hl261]; exact (SqLF O252.s h260)), _, _, R.int, R.int, _, rfl, ?_⟩
            refine iteD (fun q262 => ?_) (fun q262 => ?_)
            · have hk := wp_if hk q262
              exact hk _ _  O252.g 
            · have hk := wp_el hk q262
              refine ⟨(by show 2 ≤ sizeLine; decide), fun p263 hp264 => ?_⟩
              have hl270 : RL (a := Str) F251 ([V.str ("NoPlace" : Str), V.str ("NoRule" : Str)]) ([("NoPlace" : Str), ("NoRule" : Str)]) := RL.cons R.str (RL.cons R.str RL.nil)
              obtain ⟨F265, O266, S267, h268⟩ := O252.putE hp264 (.lst ([V.str ("NoPlace" : Str), V.str ("NoRule" : Str)]))
              have f_tree := f_tree.mono S267
              have f_rule := f_rule.mono S267
              have h242 := S267 _ _ h242
              have h248 := S267 _ _ h248
              have h255 := h255.mono S267
              have h260 := S267 _ _ h260
              have hl261 := hl261.mono S267
              have hl270 := hl270.mono S267
              have h269 := R.lst (a := Str) h268 hl270
              obtain ⟨p271, w272, e273, h274, hl275⟩ := R.lst_ h255
              cases e273
              obtain ⟨j276, e277, e278, e279, hk⟩ := wp_ixB hk
              have hw280 := RL.bools hl275
              obtain ⟨n281, hn_⟩ : ∃ z_, z_ = (j276 : Int) := ⟨_, rfl⟩
              rw [← hn_] at hk
              refine ⟨_, rfl, (.inl ⟨rfl, _, (SqLF O266.s h274)⟩), _, _, _, j276, _, rfl, rfl, (SqLF O266.s h274), rfl, (by rw [hw280]; exact all_flat_bl _), (by rw [hw280]; exact bl_at e278), bl_eq, (by rw [hw280]; exact bl_noeq e279), ?_⟩
              rw [← hn_]
              obtain ⟨p282, w283, e284, h285, hl286⟩ := R.lst_ h269
              cases e284
              obtain ⟨y287, e288, hk⟩ := wp_opt hk
              obtain ⟨w289, e290, r291⟩ := hl286.atI e288
              obtain rfl := R.str_ r291
              refine ⟨_, _, _, _, rfl, rfl, (SqLF O266.s h285), e290, ?_⟩
              exact hk _ _  O266.g 
      · have hk := wp_el hk q147
        refine ⟨_, rfl, _, _, R.int, R.int, _, rfl, ?_⟩
        refine iteD (fun q292 => ?_) (fun q292 => ?_)
        · have hk := wp_if hk q292
          refine ⟨_, rfl, _, rfl, _, rfl, _, _, _, _, _, _, rfl, O.pre0, f_tree, f_rule, wp_call hk (fun r293 er294 hk F295 H296 g297 => ?_) (fun n_ hn_ C_ H1_ hC_ kp_ => ?_)⟩
          · have O298 := O.call0 g297
            have S_ := g297.f
            have f_tree := f_tree.mono S_
            have f_rule := f_rule.mono S_
            have hk := wp_okE hk
            refine ⟨_, rfl, (by show 8 ≤ sizeLine; decide), fun p299 hp300 => ?_⟩
            obtain ⟨F301, O302, S303, h304⟩ := O298.putE hp300 (.tup [V.ref C_NoForm, V.ref C_NoLength, V.ref C_NoName, V.ref C_NoOrder, V.ref C_NoPaper, V.ref C_NoText, V.ref C_NoTie, V.ref C_NoTree])
            have f_tree := f_tree.mono S303
            have f_rule := f_rule.mono S303
            refine ⟨_, _, _, _, _, false, rfl, (O302.s _ _ h304), (.cons (.own _) (.cons (.own _) (.cons (.own _) (.cons (.own _) (.cons (.own _) (.cons (.own _) (.cons (.own _) (.cons (.own _) .nil)))))))), (.base (.base .non)), (any_no (kit_own XX.d_NoForm XX.t_NoForm XX.n_NoForm XX.s_NoForm_NoForm) (any_no (kit_own XX.d_NoLength XX.t_NoLength XX.n_NoLength XX.s_NoLength_NoLength) (any_no (kit_own XX.d_NoName XX.t_NoName XX.n_NoName XX.s_NoName_NoName) (any_no (kit_own XX.d_NoOrder XX.t_NoOrder XX.n_NoOrder XX.s_NoOrder_NoOrder) (any_no (kit_own XX.d_NoPaper XX.t_NoPaper XX.n_NoPaper XX.s_NoPaper_NoPaper) (any_no (kit_own XX.d_NoText XX.t_NoText XX.n_NoText XX.s_NoText_NoText) (any_no (kit_own XX.d_NoTie XX.t_NoTie XX.n_NoTie XX.s_NoTie_NoTie) (any_no (kit_own XX.d_NoTree XX.t_NoTree XX.n_NoTree XX.s_NoTree_NoTree) kitAny_nil)))))))), _, rfl, ?_⟩
            refine iteF ?_
            refine ⟨_, rfl, _, _, _, _, false, rfl, (.own _), (.base (.base .non)), (kit_own XX.d_NoPlace XX.t_NoPlace XX.n_NoPlace XX.s_NoPlace_NoPlace), _, rfl, _, _, _, _, false, rfl, (.own _), (.base (.base .non)), (kit_own XX.d_NoRule XX.t_NoRule XX.n_NoRule XX.s_NoRule_NoRule), (by show 2 ≤ sizeLine; decide), fun p305 hp306 => ?_⟩
            have hl312 : RL (a := Bool) F301 ([V.bl false, V.bl false]) ([false, false]) := RL.cons R.bl (RL.cons R.bl RL.nil)
            obtain ⟨F307, O308, S309, h310⟩ := O302.putE hp306 (.lst ([V.bl false, V.bl false]))
            have f_tree := f_tree.mono S309
            have f_rule := f_rule.mono S309
            have h304 := S309 _ _ h304
            have hl312 := hl312.mono S309
            have h311 := R.lst (a := Bool) h310 hl312
            refine ⟨_, rfl, _, _, _, _, false, rfl, (.ty _), (.base (.base .non)), (kit_ty (by decide +kernel)), _, rfl, ?_⟩
            refine iteNF ?_
            refine iteT ?_
            exact hk _ _  O308.g 
          · obtain ⟨hm_, hk⟩ := hn_
            rcases mem2 hm_ with rfl | rfl
            · have hk := wp_if hk rfl
              have eC_ := XX.g_NoPlace.symm.trans hC_
              cases eC_
              have O313 := O.exc kp_
              refine ⟨true, PySem.W.exm_ref XX.b_SeatError XX.d_SeatError XX.t_SeatError XX.s_NoPlace_SeatError, fun _ a314 ha315 => ?_, fun z => nomatch z⟩
              refine ⟨_, rfl, ?_⟩
              obtain ⟨F316, O317, S318, h319⟩ := O313.putE ha315 (excO (.ref C_NoPlace) none a314)
              have f_tree := f_tree.mono S318
              have f_rule := f_rule.mono S318
              refine ⟨_, rfl, (by show 8 ≤ sizeLine; decide), fun p320 hp321 => ?_⟩
              obtain ⟨F322, O323, S324, h325⟩ := O317.putE hp321 (.tup [V.ref C_NoForm, V.ref C_NoLength, V.ref C_NoName, V.ref C_NoOrder, V.ref C_NoPaper, V.ref C_NoText, V.ref C_NoTie, V.ref C_NoTree])
              have f_tree := f_tree.mono S324
              have f_rule := f_rule.mono S324
              have h319 := S324 _ _ h319
              refine ⟨_, _, _, _, _, false, rfl, (O323.s _ _ h325), (.cons (.own _) (.cons (.own _) (.cons (.own _) (.cons (.own _) (.cons (.own _) (.cons (.own _) (.cons (.own _) (.cons (.own _) .nil)))))))), (.exc (O323.s _ _ h319) XX.e_NoPlace), (any_no (kit_own XX.d_NoForm XX.t_NoForm XX.s_NoPlace_NoForm XX.s_NoForm_NoForm) (any_no (kit_own XX.d_NoLength XX.t_NoLength XX.s_NoPlace_NoLength XX.s_NoLength_NoLength) (any_no (kit_own XX.d_NoName XX.t_NoName XX.s_NoPlace_NoName XX.s_NoName_NoName) (any_no (kit_own XX.d_NoOrder XX.t_NoOrder XX.s_NoPlace_NoOrder XX.s_NoOrder_NoOrder) (any_no (kit_own XX.d_NoPaper XX.t_NoPaper XX.s_NoPlace_NoPaper XX.s_NoPaper_NoPaper) (any_no (kit_own XX.d_NoText XX.t_NoText XX.s_NoPlace_NoText XX.s_NoText_NoText) (any_no (kit_own XX.d_NoTie XX.t_NoTie XX.s_NoPlace_NoTie XX.s_NoTie_NoTie) (any_no (kit_own XX.d_NoTree XX.t_NoTree XX.s_NoPlace_NoTree XX.s_NoTree_NoTree) kitAny_nil)))))))), _, rfl, ?_⟩
              refine iteF ?_
              refine ⟨_, rfl, _, _, _, _, true, rfl, (.own _), (.exc (O323.s _ _ h319) XX.e_NoPlace), (kit_own XX.d_NoPlace XX.t_NoPlace XX.s_NoPlace_NoPlace XX.s_NoPlace_NoPlace), _, rfl, _, _, _, _, false, rfl, (.own _), (.exc (O323.s _ _ h319) XX.e_NoPlace), (kit_own XX.d_NoRule XX.t_NoRule XX.s_NoPlace_NoRule XX.s_NoRule_NoRule), (by show 2 ≤ sizeLine; decide), fun p326 hp327 => ?_⟩
              have hl333 : RL (a := Bool) F322 ([V.bl true, V.bl false]) ([true, false]) := RL.cons R.bl (RL.cons R.bl RL.nil)
              obtain ⟨F328, O329, S330, h331⟩ := O323.putE hp327 (.lst ([V.bl true, V.bl false]))
              have f_tree := f_tree.mono S330
              have f_rule := f_rule.mono S330
              have h319 := S330 _ _ h319
              have h325 := S330 _ _ h325
              have hl333 := hl333.mono S330
              have h332 := R.lst (a := Bool) h331 hl333
              refine ⟨_, rfl, _, _, _, _, true, rfl, (.ty _), (.exc (O329.s _ _ h319) XX.e_NoPlace), (kit_blt (by decide +kernel) XX.v_NoPlace), _, rfl, ?_⟩
              refine iteNT ?_
              obtain ⟨p334, w335, e336, h337, hl338⟩ := R.lst_ h332
              cases e336
              refine ⟨_, rfl, (.inl ⟨rfl, _, (SqLF O329.s h337)⟩), _, ([true, false]), _, rfl, rfl, (by rw [← RL.bools hl338]; exact (SqLF O329.s h337)), _, _, R.int, R.int, _, rfl, ?_⟩
              refine iteD (fun q339 => ?_) (fun q339 => ?_)
              · have hk := wp_if hk q339
                exact hk _ _  O329.g 
              · have hk := wp_el hk q339
                refine ⟨(by show 2 ≤ sizeLine; decide), fun p340 hp341 => ?_⟩
                have hl347 : RL (a := Str) F328 ([V.str ("NoPlace" : Str), V.str ("NoRule" : Str)]) ([("NoPlace" : Str), ("NoRule" : Str)]) := RL.cons R.str (RL.cons R.str RL.nil)
                obtain ⟨F342, O343, S344, h345⟩ := O329.putE hp341 (.lst ([V.str ("NoPlace" : Str), V.str ("NoRule" : Str)]))
                have f_tree := f_tree.mono S344
                have f_rule := f_rule.mono S344
                have h319 := S344 _ _ h319
                have h325 := S344 _ _ h325
                have h332 := h332.mono S344
                have h337 := S344 _ _ h337
                have hl338 := hl338.mono S344
                have hl347 := hl347.mono S344
                have h346 := R.lst (a := Str) h345 hl347
                obtain ⟨p348, w349, e350, h351, hl352⟩ := R.lst_ h332
                cases e350
                obtain ⟨j353, e354, e355, e356, hk⟩ := wp_ixB hk
                have hw357 := RL.bools hl352
                obtain ⟨n358, hn_⟩ : ∃ z_, z_ = (j353 : Int) := ⟨_, rfl⟩
                rw [← hn_] at hk
                refine ⟨_, rfl, (.inl ⟨rfl, _, (SqLF O343.s h351)⟩), _, _, _, j353, _, rfl, rfl, (SqLF O343.s h351), rfl, (by rw [hw357]; exact all_flat_bl _), (by rw [hw357]; exact bl_at e355), bl_eq, (by rw [hw357]; exact bl_noeq e356), ?_⟩
                rw [← hn_]
                obtain ⟨p359, w360, e361, h362, hl363⟩ := R.lst_ h346
                cases e361
                obtain ⟨y364, e365, hk⟩ := wp_opt hk
                obtain ⟨w366, e367, r368⟩ := hl363.atI e365
                obtain rfl := R.str_ r368
                refine ⟨_, _, _, _, rfl, rfl, (SqLF O343.s h362), e367, ?_⟩
                exact hk _ _  O343.g 
            · have hk := wp_el hk (by decide)
              have hk := wp_if hk rfl
              have eC_ := XX.g_NoRule.symm.trans hC_
              cases eC_
              have O369 := O.exc kp_
              refine ⟨true, PySem.W.exm_ref XX.b_SeatError XX.d_SeatError XX.t_SeatError XX.s_NoRule_SeatError, fun _ a370 ha371 => ?_, fun z => nomatch z⟩
              refine ⟨_, rfl, ?_⟩
              obtain ⟨F372, O373, S374, h375⟩ := O369.putE ha371 (excO (.ref C_NoRule) none a370)
              have f_tree := f_tree.mono S374
              have f_rule := f_rule.mono S374
              refine ⟨_, rfl, (by show 8 ≤ sizeLine; decide), fun p376 hp377 => ?_⟩
              obtain ⟨F378, O379, S380, h381⟩ := O373.putE hp377 (.tup [V.ref C_NoForm, V.ref C_NoLength, V.ref C_NoName, V.ref C_NoOrder, V.ref C_NoPaper, V.ref C_NoText, V.ref C_NoTie, V.ref C_NoTree])
              have f_tree := f_tree.mono S380
              have f_rule := f_rule.mono S380
              have h375 := S380 _ _ h375
              refine ⟨_, _, _, _, _, false, rfl, (O379.s _ _ h381), (.cons (.own _) (.cons (.own _) (.cons (.own _) (.cons (.own _) (.cons (.own _) (.cons (.own _) (.cons (.own _) (.cons (.own _) .nil)))))))), (.exc (O379.s _ _ h375) XX.e_NoRule), (any_no (kit_own XX.d_NoForm XX.t_NoForm XX.s_NoRule_NoForm XX.s_NoForm_NoForm) (any_no (kit_own XX.d_NoLength XX.t_NoLength XX.s_NoRule_NoLength XX.s_NoLength_NoLength) (any_no (kit_own XX.d_NoName XX.t_NoName XX.s_NoRule_NoName XX.s_NoName_NoName) (any_no (kit_own XX.d_NoOrder XX.t_NoOrder XX.s_NoRule_NoOrder XX.s_NoOrder_NoOrder) (any_no (kit_own XX.d_NoPaper XX.t_NoPaper XX.s_NoRule_NoPaper XX.s_NoPaper_NoPaper) (any_no (kit_own XX.d_NoText XX.t_NoText XX.s_NoRule_NoText XX.s_NoText_NoText) (any_no (kit_own XX.d_NoTie XX.t_NoTie XX.s_NoRule_NoTie XX.s_NoTie_NoTie) (any_no (kit_own XX.d_NoTree XX.t_NoTree XX.s_NoRule_NoTree XX.s_NoTree_NoTree) kitAny_nil)))))))), _, rfl, ?_⟩
              refine iteF ?_
              refine ⟨_, rfl, _, _, _, _, false, rfl, (.own _), (.exc (O379.s _ _ h375) XX.e_NoRule), (kit_own XX.d_NoPlace XX.t_NoPlace XX.s_NoRule_NoPlace XX.s_NoPlace_NoPlace), _, rfl, _, _, _, _, true, rfl, (.own _), (.exc (O379.s _ _ h375) XX.e_NoRule), (kit_own XX.d_NoRule XX.t_NoRule XX.s_NoRule_NoRule XX.s_NoRule_NoRule), (by show 2 ≤ sizeLine; decide), fun p382 hp383 => ?_⟩
              have hl389 : RL (a := Bool) F378 ([V.bl false, V.bl true]) ([false, true]) := RL.cons R.bl (RL.cons R.bl RL.nil)
              obtain ⟨F384, O385, S386, h387⟩ := O379.putE hp383 (.lst ([V.bl false, V.bl true]))
              have f_tree := f_tree.mono S386
              have f_rule := f_rule.mono S386
              have h375 := S386 _ _ h375
              have h381 := S386 _ _ h381
              have hl389 := hl389.mono S386
              have h388 := R.lst (a := Bool) h387 hl389
              refine ⟨_, rfl, _, _, _, _, true, rfl, (.ty _), (.exc (O385.s _ _ h375) XX.e_NoRule), (kit_blt (by decide +kernel) XX.v_NoRule), _, rfl, ?_⟩
              refine iteNT ?_
              obtain ⟨p390, w391, e392, h393, hl394⟩ := R.lst_ h388
              cases e392
              refine ⟨_, rfl, (.inl ⟨rfl, _, (SqLF O385.s h393)⟩), _, ([false, true]), _, rfl, rfl, (by rw [← RL.bools hl394]; exact (SqLF O385.s h393)), _, _, R.int, R.int, _, rfl, ?_⟩
              refine iteD (fun q395 => ?_) (fun q395 => ?_)
              · have hk := wp_if hk q395
                exact hk _ _  O385.g 
              · have hk := wp_el hk q395
                refine ⟨(by show 2 ≤ sizeLine; decide), fun p396 hp397 => ?_⟩
                have hl403 : RL (a := Str) F384 ([V.str ("NoPlace" : Str), V.str ("NoRule" : Str)]) ([("NoPlace" : Str), ("NoRule" : Str)]) := RL.cons R.str (RL.cons R.str RL.nil)
                obtain ⟨F398, O399, S400, h401⟩ := O385.putE hp397 (.lst ([V.str ("NoPlace" : Str), V.str ("NoRule" : Str)]))
                have f_tree := f_tree.mono S400
                have f_rule := f_rule.mono S400
                have h375 := S400 _ _ h375
                have h381 := S400 _ _ h381
                have h388 := h388.mono S400
                have h393 := S400 _ _ h393
                have hl394 := hl394.mono S400
                have hl403 := hl403.mono S400
                have h402 := R.lst (a := Str) h401 hl403
                obtain ⟨p404, w405, e406, h407, hl408⟩ := R.lst_ h388
                cases e406
                obtain ⟨j409, e410, e411, e412, hk⟩ := wp_ixB hk
                have hw413 := RL.bools hl408
                obtain ⟨n414, hn_⟩ : ∃ z_, z_ = (j409 : Int) := ⟨_, rfl⟩
                rw [← hn_] at hk
                refine ⟨_, rfl, (.inl ⟨rfl, _, (SqLF O399.s h407)⟩), _, _, _, j409, _, rfl, rfl, (SqLF O399.s h407), rfl, (by rw [hw413]; exact all_flat_bl _), (by rw [hw413]; exact bl_at e411), bl_eq, (by rw [hw413]; exact bl_noeq e412), ?_⟩
                rw [← hn_]
                obtain ⟨p415, w416, e417, h418, hl419⟩ := R.lst_ h402
                cases e417
                obtain ⟨y420, e421, hk⟩ := wp_opt hk
                obtain ⟨w422, e423, r424⟩ := hl419.atI e421
                obtain rfl := R.str_ r424
                refine ⟨_, _, _, _, rfl, rfl, (SqLF O399.s h418), e423, ?_⟩
                exact hk _ _  O399.g 
        · have hk := wp_el hk q292
          refine ⟨_, rfl, _, rfl, _, rfl, _, rfl, (by show 2 ≤ sizeLine; decide), fun p425 hp426 => ?_⟩
          obtain ⟨F427, O428, S429, h430⟩ := O.putE hp426 (.tup [V.int x_one, V.int x_other])
          have f_tree := f_tree.mono S429
          have f_rule := f_rule.mono S429
          have h431 : R (a := (Int × Int)) F427 (.ref p425) (x_one, x_other) := R.t2 h430 R.int R.int
          refine ⟨_, _, _, _, _, _, _, rfl, O428.pre0, f_tree, f_rule, h431, wp_call hk (fun r432 er433 hk F434 H435 g436 p437 w438 hn439 hf440 h441 hl442 => ?_) (fun n_ hn_ C_ H1_ hC_ kp_ => ?_)⟩
          · have O443 := O428.call0 g436
            have S_ := g436.f
            have f_tree := f_tree.mono S_
            have f_rule := f_rule.mono S_
            have h431 := h431.mono S_
            have O444 := O428.got O443 rfl hn439 hf440 h441
            have z445 := O428.was hn439
            obtain ⟨F446, O447, S448, h449⟩ := O444.frzE 0 rfl z445
            have f_tree := f_tree.mono S448
            have f_rule := f_rule.mono S448
            have h431 := h431.mono S448
            have hl442 := hl442.mono S448
            have h450 := R.lst (a := Int) h449 hl442
            have hk := wp_okE hk
            refine ⟨_, rfl, (by show 8 ≤ sizeLine; decide), fun p451 hp452 => ?_⟩
            obtain ⟨F453, O454, S455, h456⟩ := O447.putE hp452 (.tup [V.ref C_NoForm, V.ref C_NoLength, V.ref C_NoName, V.ref C_NoOrder, V.ref C_NoPaper, V.ref C_NoText, V.ref C_NoTie, V.ref C_NoTree])
            have f_tree := f_tree.mono S455
            have f_rule := f_rule.mono S455
            have h431 := h431.mono S455
            have h450 := h450.mono S455
            refine ⟨_, _, _, _, _, false, rfl, (O454.s _ _ h456), (.cons (.own _) (.cons (.own _) (.cons (.own _) (.cons (.own _) (.cons (.own _) (.cons (.own _) (.cons (.own _) (.cons (.own _) .nil)))))))), (.base (.base .non)), (any_no (kit_own XX.d_NoForm XX.t_NoForm XX.n_NoForm XX.s_NoForm_NoForm) (any_no (kit_own XX.d_NoLength XX.t_NoLength XX.n_NoLength XX.s_NoLength_NoLength) (any_no (kit_own XX.d_NoName XX.t_NoName XX.n_NoName XX.s_NoName_NoName) (any_no (kit_own XX.d_NoOrder XX.t_NoOrder XX.n_NoOrder XX.s_NoOrder_NoOrder) (any_no (kit_own XX.d_NoPaper XX.t_NoPaper XX.n_NoPaper XX.s_NoPaper_NoPaper) (any_no (kit_own XX.d_NoText XX.t_NoText XX.n_NoText XX.s_NoText_NoText) (any_no (kit_own XX.d_NoTie XX.t_NoTie XX.n_NoTie XX.s_NoTie_NoTie) (any_no (kit_own XX.d_NoTree XX.t_NoTree XX.n_NoTree XX.s_NoTree_NoTree) kitAny_nil)))))))), _, rfl, ?_⟩
            refine iteF ?_
            refine ⟨_, rfl, _, _, _, _, false, rfl, (.own _), (.base (.base .non)), (kit_own XX.d_NoPlace XX.t_NoPlace XX.n_NoPlace XX.s_NoPlace_NoPlace), _, rfl, _, _, _, _, false, rfl, (.own _), (.base (.base .non)), (kit_own XX.d_NoRule XX.t_NoRule XX.n_NoRule XX.s_NoRule_NoRule), (by show 2 ≤ sizeLine; decide), fun p457 hp458 => ?_⟩
            have hl464 : RL (a := Bool) F453 ([V.bl false, V.bl false]) ([false, false]) := RL.cons R.bl (RL.cons R.bl RL.nil)
            obtain ⟨F459, O460, S461, h462⟩ := O454.putE hp458 (.lst ([V.bl false, V.bl false]))
            have f_tree := f_tree.mono S461
            have f_rule := f_rule.mono S461
            have h431 := h431.mono S461
            have h450 := h450.mono S461
            have h456 := S461 _ _ h456
            have hl464 := hl464.mono S461
            have h463 := R.lst (a := Bool) h462 hl464
            refine ⟨_, rfl, _, _, _, _, false, rfl, (.ty _), (.base (.base .non)), (kit_ty (by decide +kernel)), _, rfl, ?_⟩
            refine iteNF ?_
            refine iteT ?_
            exact hk _ _  O460.g 
          · obtain ⟨hm_, hk⟩ := hn_
            rcases mem2 hm_ with rfl | rfl
            · have hk := wp_if hk rfl
              have eC_ := XX.g_NoPlace.symm.trans hC_
              cases eC_
              have O465 := O428.exc kp_
              refine ⟨true, PySem.W.exm_ref XX.b_SeatError XX.d_SeatError XX.t_SeatError XX.s_NoPlace_SeatError, fun _ a466 ha467 => ?_, fun z => nomatch z⟩
              refine ⟨_, rfl, ?_⟩
              obtain ⟨F468, O469, S470, h471⟩ := O465.putE ha467 (excO (.ref C_NoPlace) none a466)
              have f_tree := f_tree.mono S470
              have f_rule := f_rule.mono S470
              have h431 := h431.mono S470
              refine ⟨_, rfl, (by show 8 ≤ sizeLine; decide), fun p472 hp473 => ?_⟩
              obtain ⟨F474, O475, S476, h477⟩ := O469.putE hp473 (.tup [V.ref C_NoForm, V.ref C_NoLength, V.ref C_NoName, V.ref C_NoOrder, V.ref C_NoPaper, V.ref C_NoText, V.ref C_NoTie, V.ref C_NoTree])
              have f_tree := f_tree.mono S476
              have f_rule := f_rule.mono S476
              have h431 := h431.mono S476
              have h471 := S476 _ _ h471
              refine ⟨_, _, _, _, _, false, rfl, (O475.s _ _ h477), (.cons (.own _) (.cons (.own _) (.cons (.own _) (.cons (.own _) (.cons (.own _) (.cons (.own _) (.cons (.own _) (.cons (.own _) .nil)))))))), (.exc (O475.s _ _ h471) XX.e_NoPlace), (any_no (kit_own XX.d_NoForm XX.t_NoForm XX.s_NoPlace_NoForm XX.s_NoForm_NoForm) (any_no (kit_own XX.d_NoLength XX.t_NoLength XX.s_NoPlace_NoLength XX.s_NoLength_NoLength) (any_no (kit_own XX.d_NoName XX.t_NoName XX.s_NoPlace_NoName XX.s_NoName_NoName) (any_no (kit_own XX.d_NoOrder XX.t_NoOrder XX.s_NoPlace_NoOrder XX.s_NoOrder_NoOrder) (any_no (kit_own XX.d_NoPaper XX.t_NoPaper XX.s_NoPlace_NoPaper XX.s_NoPaper_NoPaper) (any_no (kit_own XX.d_NoText XX.t_NoText XX.s_NoPlace_NoText XX.s_NoText_NoText) (any_no (kit_own XX.d_NoTie XX.t_NoTie XX.s_NoPlace_NoTie XX.s_NoTie_NoTie) (any_no (kit_own XX.d_NoTree XX.t_NoTree XX.s_NoPlace_NoTree XX.s_NoTree_NoTree) kitAny_nil)))))))), _, rfl, ?_⟩
              refine iteF ?_
              refine ⟨_, rfl, _, _, _, _, true, rfl, (.own _), (.exc (O475.s _ _ h471) XX.e_NoPlace), (kit_own XX.d_NoPlace XX.t_NoPlace XX.s_NoPlace_NoPlace XX.s_NoPlace_NoPlace), _, rfl, _, _, _, _, false, rfl, (.own _), (.exc (O475.s _ _ h471) XX.e_NoPlace), (kit_own XX.d_NoRule XX.t_NoRule XX.s_NoPlace_NoRule XX.s_NoRule_NoRule), (by show 2 ≤ sizeLine; decide), fun p478 hp479 => ?_⟩
              have hl485 : RL (a := Bool) F474 ([V.bl true, V.bl false]) ([true, false]) := RL.cons R.bl (RL.cons R.bl RL.nil)
              obtain ⟨F480, O481, S482, h483⟩ := O475.putE hp479 (.lst ([V.bl true, V.bl false]))
              have f_tree := f_tree.mono S482
              have f_rule := f_rule.mono S482
              have h431 := h431.mono S482
              have h471 := S482 _ _ h471
              have h477 := S482 _ _ h477
              have hl485 := hl485.mono S482
              have h484 := R.lst (a := Bool) h483 hl485
              refine ⟨_, rfl, _, _, _, _, true, rfl, (.ty _), (.exc (O481.s _ _ h471) XX.e_NoPlace), (kit_blt (by decide +kernel) XX.v_NoPlace), _, rfl, ?_⟩
              refine iteNT ?_
              obtain ⟨p486, w487, e488, h489, hl490⟩ := R.lst_ h484
              cases e488
              refine ⟨_, rfl, (.inl ⟨rfl, _, (SqLF O481.s h489)⟩), _, ([true, false]), _, rfl, rfl, (by rw [← RL.bools hl490]; exact (SqLF O481.s h489)), _, _, R.int, R.int, _, rfl, ?_⟩
              refine iteD (fun q491 => ?_) (fun q491 => ?_)
              · have hk := wp_if hk q491
                exact hk _ _  O481.g 
              · have hk := wp_el hk q491
                refine ⟨(by show 2 ≤ sizeLine; decide), fun p492 hp493 => ?_⟩
                have hl499 : RL (a := Str) F480 ([V.str ("NoPlace" : Str), V.str ("NoRule" : Str)]) ([("NoPlace" : Str), ("NoRule" : Str)]) := RL.cons R.str (RL.cons R.str RL.nil)
                obtain ⟨F494, O495, S496, h497⟩ := O481.putE hp493 (.lst ([V.str ("NoPlace" : Str), V.str ("NoRule" : Str)]))
                have f_tree := f_tree.mono S496
                have f_rule := f_rule.mono S496
                have h431 := h431.mono S496
                have h471 := S496 _ _ h471
                have h477 := S496 _ _ h477
                have h484 := h484.mono S496
                have h489 := S496 _ _ h489
                have hl490 := hl490.mono S496
                have hl499 := hl499.mono S496
                have h498 := R.lst (a := Str) h497 hl499
                obtain ⟨p500, w501, e502, h503, hl504⟩ := R.lst_ h484
                cases e502
                obtain ⟨j505, e506, e507, e508, hk⟩ := wp_ixB hk
                have hw509 := RL.bools hl504
                obtain ⟨n510, hn_⟩ : ∃ z_, z_ = (j505 : Int) := ⟨_, rfl⟩
                rw [← hn_] at hk
                refine ⟨_, rfl, (.inl ⟨rfl, _, (SqLF O495.s h503)⟩), _, _, _, j505, _, rfl, rfl, (SqLF O495.s h503), rfl, (by rw [hw509]; exact all_flat_bl _), (by rw [hw509]; exact bl_at e507), bl_eq, (by rw [hw509]; exact bl_noeq e508), ?_⟩
                rw [← hn_]
                obtain ⟨p511, w512, e513, h514, hl515⟩ := R.lst_ h498
                cases e513
                obtain ⟨y516, e517, hk⟩ := wp_opt hk
                obtain ⟨w518, e519, r520⟩ := hl515.atI e517
                obtain rfl := R.str_ r520
                refine ⟨_, _, _, _, rfl, rfl, (SqLF O495.s h514), e519, ?_⟩
                exact hk _ _  O495.g 
            · have hk := wp_el hk (by decide)
              have hk := wp_if hk rfl
              have eC_ := XX.g_NoRule.symm.trans hC_
              cases eC_
              have O521 := O428.exc kp_
              refine ⟨true, PySem.W.exm_ref XX.b_SeatError XX.d_SeatError XX.t_SeatError XX.s_NoRule_SeatError, fun _ a522 ha523 => ?_, fun z => nomatch z⟩
              refine ⟨_, rfl, ?_⟩
              obtain ⟨F524, O525, S526, h527⟩ := O521.putE ha523 (excO (.ref C_NoRule) none a522)
              have f_tree := f_tree.mono S526
              have f_rule := f_rule.mono S526
              have h431 := h431.mono S526
              refine ⟨_, rfl, (by show 8 ≤ sizeLine; decide), fun p528 hp529 => ?_⟩
              obtain ⟨F530, O531, S532, h533⟩ := O525.putE hp529 (.tup [V.ref C_NoForm, V.ref C_NoLength, V.ref C_NoName, V.ref C_NoOrder, V.ref C_NoPaper, V.ref C_NoText, V.ref C_NoTie, V.ref C_NoTree])
              have f_tree := f_tree.mono S532
              have f_rule := f_rule.mono S532
              have h431 := h431.mono S532
              have h527 := S532 _ _ h527
              refine ⟨_, _, _, _, _, false, rfl, (O531.s _ _ h533), (.cons (.own _) (.cons (.own _) (.cons (.own _) (.cons (.own _) (.cons (.own _) (.cons (.own _) (.cons (.own _) (.cons (.own _) .nil)))))))), (.exc (O531.s _ _ h527) XX.e_NoRule), (any_no (kit_own XX.d_NoForm XX.t_NoForm XX.s_NoRule_NoForm XX.s_NoForm_NoForm) (any_no (kit_own XX.d_NoLength XX.t_NoLength XX.s_NoRule_NoLength XX.s_NoLength_NoLength) (any_no (kit_own XX.d_NoName XX.t_NoName XX.s_NoRule_NoName XX.s_NoName_NoName) (any_no (kit_own XX.d_NoOrder XX.t_NoOrder XX.s_NoRule_NoOrder XX.s_NoOrder_NoOrder) (any_no (kit_own XX.d_NoPaper XX.t_NoPaper XX.s_NoRule_NoPaper XX.s_NoPaper_NoPaper) (any_no (kit_own XX.d_NoText XX.t_NoText XX.s_NoRule_NoText XX.s_NoText_NoText) (any_no (kit_own XX.d_NoTie XX.t_NoTie XX.s_NoRule_NoTie XX.s_NoTie_NoTie) (any_no (kit_own XX.d_NoTree XX.t_NoTree XX.s_NoRule_NoTree XX.s_NoTree_NoTree) kitAny_nil)))))))), _, rfl, ?_⟩
              refine iteF ?_
              refine ⟨_, rfl, _, _, _, _, false, rfl, (.own _), (.exc (O531.s _ _ h527) XX.e_NoRule), (kit_own XX.d_NoPlace XX.t_NoPlace XX.s_NoRule_NoPlace XX.s_NoPlace_NoPlace), _, rfl, _, _, _, _, true, rfl, (.own _), (.exc (O531.s _ _ h527) XX.e_NoRule), (kit_own XX.d_NoRule XX.t_NoRule XX.s_NoRule_NoRule XX.s_NoRule_NoRule), (by show 2 ≤ sizeLine; decide), fun p534 hp535 => ?_⟩
              have hl541 : RL (a := Bool) F530 ([V.bl false, V.bl true]) ([false, true]) := RL.cons R.bl (RL.cons R.bl RL.nil)
              obtain ⟨F536, O537, S538, h539⟩ := O531.putE hp535 (.lst ([V.bl false, V.bl true]))
              have f_tree := f_tree.mono S538
              have f_rule := f_rule.mono S538
              have h431 := h431.mono S538
              have h527 := S538 _ _ h527
              have h533 := S538 _ _ h533
              have hl541 := hl541.mono S538
              have h540 := R.lst (a := Bool) h539 hl541
              refine ⟨_, rfl, _, _, _, _, true, rfl, (.ty _), (.exc (O537.s _ _ h527) XX.e_NoRule), (kit_blt (by decide +kernel) XX.v_NoRule), _, rfl, ?_⟩
              refine iteNT ?_
              obtain ⟨p542, w543, e544, h545, hl546⟩ := R.lst_ h540
              cases e544
              refine ⟨_, rfl, (.inl ⟨rfl, _, (SqLF O537.s h545)⟩), _, ([false, true]), _, rfl, rfl, (by rw [← RL.bools hl546]; exact (SqLF O537.s h545)), _, _, R.int, R.int, _, rfl, ?_⟩
              refine iteD (fun q547 => ?_) (fun q547 => ?_)
              · have hk := wp_if hk q547
                exact hk _ _  O537.g 
              · have hk := wp_el hk q547
                refine ⟨(by show 2 ≤ sizeLine; decide), fun p548 hp549 => ?_⟩
                have hl555 : RL (a := Str) F536 ([V.str ("NoPlace" : Str), V.str ("NoRule" : Str)]) ([("NoPlace" : Str), ("NoRule" : Str)]) := RL.cons R.str (RL.cons R.str RL.nil)
                obtain ⟨F550, O551, S552, h553⟩ := O537.putE hp549 (.lst ([V.str ("NoPlace" : Str), V.str ("NoRule" : Str)]))
                have f_tree := f_tree.mono S552
                have f_rule := f_rule.mono S552
                have h431 := h431.mono S552
                have h527 := S552 _ _ h527
                have h533 := S552 _ _ h533
                have h540 := h540.mono S552
                have h545 := S552 _ _ h545
                have hl546 := hl546.mono S552
                have hl555 := hl555.mono S552
                have h554 := R.lst (a := Str) h553 hl555
                obtain ⟨p556, w557, e558, h559, hl560⟩ := R.lst_ h540
                cases e558
                obtain ⟨j561, e562, e563, e564, hk⟩ := wp_ixB hk
                have hw565 := RL.bools hl560
                obtain ⟨n566, hn_⟩ : ∃ z_, z_ = (j561 : Int) := ⟨_, rfl⟩
                rw [← hn_] at hk
                refine ⟨_, rfl, (.inl ⟨rfl, _, (SqLF O551.s h559)⟩), _, _, _, j561, _, rfl, rfl, (SqLF O551.s h559), rfl, (by rw [hw565]; exact all_flat_bl _), (by rw [hw565]; exact bl_at e563), bl_eq, (by rw [hw565]; exact bl_noeq e564), ?_⟩
                rw [← hn_]
                obtain ⟨p567, w568, e569, h570, hl571⟩ := R.lst_ h554
                cases e569
                obtain ⟨y572, e573, hk⟩ := wp_opt hk
                obtain ⟨w574, e575, r576⟩ := hl571.atI e573
                obtain rfl := R.str_ r576
                refine ⟨_, _, _, _, rfl, rfl, (SqLF O551.s h570), e575, ?_⟩
                exact hk _ _  O551.g 
abbrev s_law : Stmt := top 46
theorem sc_law : FnScope ["script", "cell", "deck", "tree", "rule", "none", "many", "good", "far", "handed", "bad", "tied", "other", "way", "a", "b", "length"] ["script"] (defScope s_law) := ⟨rfl, rfl, rfl, by decide +kernel, rfl, by decide +kernel, by decide +kernel⟩
def m_law (x_script : (List Int)) : M (Bool) :=
chk (([((10 : Int) ^ Int.toNat (18 : Int))]).length + (cutL x_script none (some (15 : Int))).length < 16777216) >>= fun _ =>
loopM (fun (y41 : Int) (st52 : Unit) =>
m_law_deck y41 >>= fun r71 =>
m_law_tree r71 (10 : Int) (4 : Int) >>= fun r85 =>
m_law_rule r85.2 false >>= fun r96 =>
m_law_take r96.2 (r85.1.1.length : Int) >>= fun r179 =>
m_law_take r179.2 (3 : Int) >>= fun r196 =>
opt (atI ([(1 : Int), (3 : Int), ((10 : Int) ^ Int.toNat (30 : Int))]) r196.1) >>= fun y210 =>
m_law_take r196.2 y210 >>= fun r215 =>
m_law_copied r85.1 >>= fun r224 =>
loopM (fun (y245 : Int) (st256 : Unit) =>
chk (okR (4 : Int)) >>= fun _ =>
loopM (fun (y263 : Int) (st275 : Unit) =>
m_law_asked r224 r96.1 y245 r179.1 y263 >>= fun r279 =>
if r279 ≠ ("NoPlace" : Str) then (
.ok (.rt (.rt (.rt false))))
else (
.ok (.nx ()))) (rangeL 0 (4 : Int)) () >>= fun f294 => match f294 with
| .rt z_ => .ok z_
| .nx st289 =>
loopM (fun (y308 : Int) (st319 : Unit) =>
m_law_asked r224 r96.1 r179.1 y245 y308 >>= fun r325 =>
if r325 ≠ ("NoPlace" : Str) then (
.ok (.rt (.rt (.rt false))))
else (
.ok (.nx ()))) ([(1 : Int), (3 : Int)]) () >>= fun f340 => match f340 with
| .rt z_ => .ok z_
| .nx st335 =>
loopM (fun (y354 : Int) (st365 : Unit) =>
m_law_asked r224 (T4.mk ([(Sm.nam ("tie" : Str))]) ([(Sm.num (("more" : Str), (0 : Int)).1 (("more" : Str), (0 : Int)).2)]) ([(Sm.num (("so" : Str), (0 : Int)).1 (("so" : Str), (0 : Int)).2)]) (Sm.num (("so" : Str), (0 : Int)).1 (("so" : Str), (0 : Int)).2)) y245 r179.1 y354 >>= fun r371 =>
if r371 ≠ ("NoRule" : Str) then (
.ok (.rt (.rt (.rt false))))
else (
.ok (.nx ()))) ([(2 : Int), (3 : Int)]) () >>= fun f386 => match f386 with
| .rt z_ => .ok z_
| .nx st381 =>
.ok (.nx ())) ([((-(1 : Int)) - r215.1), ((r85.1.1.length : Int) + r215.1)]) () >>= fun f396 => match f396 with
| .rt z_ => .ok z_
| .nx st390 =>
compS (fun (y402 : (T3 Int Int Int)) (st419 : Unit) =>
.ok (some (sortT ([y402.a, y402.b])), ())) r85.1.2 () >>= fun q466 =>
chk (okR (r85.1.1.length : Int)) >>= fun _ =>
loopM (fun (y472 : Int) (st484 : Unit) =>
if ¬ inD (sortT ([r179.1, y472])) q466.1 then (
m_law_asked r224 r96.1 r179.1 y472 (3 : Int) >>= fun r515 =>
if r515 ≠ ("NoPlace" : Str) then (
.ok (.rt (.rt false)))
else (
.ok (.nx ())))
else (
.ok (.nx ()))) (rangeL 0 (r85.1.1.length : Int)) () >>= fun f530 => match f530 with
| .rt z_ => .ok z_
| .nx st525 =>
if r224 ≠ r85.1 then (
.ok (.rt false))
else (
.ok (.nx ()))) (([((10 : Int) ^ Int.toNat (18 : Int))]) ++ (cutL x_script none (some (15 : Int)))) () >>= fun f553 => match f553 with
| .rt z_ => .ok z_
| .nx st536 =>
.ok true
def sp_law (K : PySem.W.Frag) : Sp := fun vs H Q E => ∃ (F : Hp) (a_script : Addr) (x_script : (List Int)), vs = [.ref a_script] ∧ Pre F [] H ∧ SqL K F a_script (x_script.map V.int) ∧
  wp (m_law x_script) (fun r => ∀ (F' H' : Hp), Gr [] F H F' H' → Q (V.bl r) H') (fun _ => False)
set_option maxHeartbeats 2000000 in
theorem ok_law (nb : Nb mg) (C_law_asked : Ca P w K mg base "_law_asked" 78 ["tree", "rule", "one", "other", "way"] (sp_law_asked mg)) (C_law_copied : Ca P w K mg base "_law_copied" 1 ["tree"] (sp_law_copied mg)) (C_law_deck : Ca P w K mg base "_law_deck" 2 ["cell"] (sp_law_deck mg)) (C_law_rule : Ca P w K mg base "_law_rule" 9 ["deck", "times"] (sp_law_rule mg)) (C_law_take : Ca P w K mg base "_law_take" 1 ["deck", "many"] (sp_law_take mg)) (C_law_tree : Ca P w K mg base "_law_tree" 3 ["deck", "most", "far"] (sp_law_tree mg)) {f : Addr} {fd : FuncData} (F_ : Fun K "law" "law" s_law f fd) : FnOk P w K mg base (L2.CX P w) 79 f fd ["script"] (sp_law K) := by
  obtain ⟨fa_law_asked, fd_law_asked, G_law_asked, M_law_asked, K_law_asked, B_law_asked⟩ := C_law_asked.ex
  obtain ⟨fa_law_copied, fd_law_copied, G_law_copied, M_law_copied, K_law_copied, B_law_copied⟩ := C_law_copied.ex
  obtain ⟨fa_law_deck, fd_law_deck, G_law_deck, M_law_deck, K_law_deck, B_law_deck⟩ := C_law_deck.ex
  obtain ⟨fa_law_rule, fd_law_rule, G_law_rule, M_law_rule, K_law_rule, B_law_rule⟩ := C_law_rule.ex
  obtain ⟨fa_law_take, fd_law_take, G_law_take, M_law_take, K_law_take, B_law_take⟩ := C_law_take.ex
  obtain ⟨fa_law_tree, fd_law_tree, G_law_tree, M_law_tree, K_law_tree, B_law_tree⟩ := C_law_tree.ex
  refine F_.okX sc_law (fun vs H Q E h => ?_) (fun cdv A outer s H vs Q E hr h => ?_)
  · obtain ⟨F, _, _, rfl, _⟩ := h
    rfl
  · obtain ⟨F, a_script, x_script, rfl, P0, f_script, hk⟩ := h
    have nd := sc_law.nd
    have hu64 := hr.units
    have hu128 := hu128_of hr
    have O := P0.start
    refine ⟨_, (pss_cons (ps_for (passes_of rfl) rfl (pi_list (pe_op op_cat (pe_lst (pa_cons (pe_op op_pow pe_int pe_int) pa_nil)) (pe_slice (slListK (K := K) rfl) (pv 0) po_none (po_some pe_int)))) (pg_name (i := 1) nd rfl (Or.inl rfl)) (pss_cons (ps_set (i := 2) nd rfl (Or.inl rfl) (pe_call G_law_deck (hr.mono (by decide)) rfl M_law_deck K_law_deck B_law_deck .nil (passes_call (takes_of rfl rfl rfl rfl) fun _ _ _ _ h => h) (pa_cons (pv 1) pa_nil)))
  (pss_cons (ps_set (i := 3) nd rfl (Or.inl rfl) (pe_call G_law_tree (hr.mono (by decide)) rfl M_law_tree K_law_tree B_law_tree .nil (passes_call (takes_of rfl rfl rfl rfl) fun _ _ _ _ h => h) (pa_cons (pv 2) (pa_cons pe_int (pa_cons pe_int pa_nil)))))
  (pss_cons (ps_set (i := 4) nd rfl (Or.inl rfl) (pe_call G_law_rule (hr.mono (by decide)) rfl M_law_rule K_law_rule B_law_rule .nil (passes_call (takes_of rfl rfl rfl rfl) fun _ _ _ _ h => h) (pa_cons (pv 2) (pa_cons pe_bl pa_nil))))
  (pss_cons (ps_set (i := 5) nd rfl (Or.inl rfl) (pe_tup (pa_cons (pe_lst (pa_cons (pe_tup (pa_cons pe_str pa_nil)) pa_nil)) (pa_cons (pe_lst (pa_cons (pe_tup (pa_cons pe_str (pa_cons pe_int pa_nil))) pa_nil)) (pa_cons (pe_lst (pa_cons (pe_tup (pa_cons pe_str (pa_cons pe_int pa_nil))) pa_nil)) (pa_cons (pe_tup (pa_cons pe_str (pa_cons pe_int pa_nil))) pa_nil))))))
  (pss_cons (ps_set (i := 6) nd rfl (Or.inl rfl) (pe_callB call_lenT (by rfl) nb.b_len PySem.boot_len (pa_cons (pe_ix (ixTupK (K := K) rfl) (pv 3) pe_int (fun _ _ => rfl)) pa_nil)))
  (pss_cons (ps_set (i := 7) nd rfl (Or.inl rfl) (pe_call G_law_take (hr.mono (by decide)) rfl M_law_take K_law_take B_law_take .nil (passes_call (takes_of rfl rfl rfl rfl) fun _ _ _ _ h => h) (pa_cons (pv 2) (pa_cons (pv 6) pa_nil))))
  (pss_cons (ps_set (i := 8) nd rfl (Or.inl rfl) (pe_call G_law_take (hr.mono (by decide)) rfl M_law_take K_law_take B_law_take .nil (passes_call (takes_of rfl rfl rfl rfl) fun _ _ _ _ h => h) (pa_cons (pv 2) (pa_cons (pe_ix (ixListK (K := K) rfl) (pe_lst (pa_cons pe_int (pa_cons pe_int (pa_cons (pe_op op_pow pe_int pe_int) pa_nil)))) (pe_call G_law_take (hr.mono (by decide)) rfl M_law_take K_law_take B_law_take .nil (passes_call (takes_of rfl rfl rfl rfl) fun _ _ _ _ h => h) (pa_cons (pv 2) (pa_cons pe_int pa_nil))) (fun _ _ => rfl)) pa_nil))))
  (pss_cons (ps_set (i := 9) nd rfl (Or.inl rfl) (pe_call G_law_copied (hr.mono (by decide)) rfl M_law_copied K_law_copied B_law_copied .nil (passes_call (takes_of rfl rfl rfl rfl) fun _ _ _ _ h => h) (pa_cons (pv 3) pa_nil)))
  (pss_cons (ps_for (passes_of rfl) rfl (pi_list (pe_lst (pa_cons (pe_op op_sub (pe_un un_neg pe_int) (pv 8)) (pa_cons (pe_op op_add (pv 6) (pv 8)) pa_nil)))) (pg_name (i := 10) nd rfl (Or.inl rfl)) (pss_cons (ps_for (passes_of rfl) rfl (pi_range1 rfl nb.b_range (pa_cons pe_int pa_nil)) (pg_name (i := 13) nd rfl (Or.inl rfl)) (pss_one (ps_if (pt_cmpR (op_neT Str hu64) (pe_call G_law_asked (hr.mono (by decide)) rfl M_law_asked K_law_asked B_law_asked .nil (passes_call (takes_of rfl rfl rfl rfl) fun _ _ _ _ h => h) (pa_cons (pv 9) (pa_cons (pv 4) (pa_cons (pv 10) (pa_cons (pv 7) (pa_cons (pv 13) pa_nil)))))) pe_str (nomark _)) (pss_one (ps_ret pe_bl)) pss_nil)))
  (pss_cons (ps_for (passes_of rfl) rfl (pi_list (pe_lst (pa_cons pe_int (pa_cons pe_int pa_nil)))) (pg_name (i := 13) nd rfl (Or.inl rfl)) (pss_one (ps_if (pt_cmpR (op_neT Str hu64) (pe_call G_law_asked (hr.mono (by decide)) rfl M_law_asked K_law_asked B_law_asked .nil (passes_call (takes_of rfl rfl rfl rfl) fun _ _ _ _ h => h) (pa_cons (pv 9) (pa_cons (pv 4) (pa_cons (pv 7) (pa_cons (pv 10) (pa_cons (pv 13) pa_nil)))))) pe_str (nomark _)) (pss_one (ps_ret pe_bl)) pss_nil)))
  (pss_one (ps_for (passes_of rfl) rfl (pi_list (pe_lst (pa_cons pe_int (pa_cons pe_int pa_nil)))) (pg_name (i := 13) nd rfl (Or.inl rfl)) (pss_one (ps_if (pt_cmpR (op_neT Str hu64) (pe_call G_law_asked (hr.mono (by decide)) rfl M_law_asked K_law_asked B_law_asked .nil (passes_call (takes_of rfl rfl rfl rfl) fun _ _ _ _ h => h) (pa_cons (pv 9) (pa_cons (pv 5) (pa_cons (pv 10) (pa_cons (pv 7) (pa_cons (pv 13) pa_nil)))))) pe_str (nomark _)) (pss_one (ps_ret pe_bl)) pss_nil)))))))
  (pss_cons (ps_setLc (i := 11) (own := [("a", 14), ("b", 15), ("length", 16)]) (g := gTup K 3 (gCons (gName 14) (gCons (gName 15) (gCons (gName 16) (gNil))))) (tt := _) rfl nd rfl rfl (sw_true rfl rfl rfl (by decide +kernel)) (pi_list (pe_ix (ixTupK (K := K) rfl) (pv 3) pe_int (fun _ _ => rfl))) (blkOk_by (own := [("a", 14), ("b", 15), ("length", 16)]) (N := ["script", "cell", "deck", "tree", "rule", "none", "many", "good", "far", "handed", "bad", "tied", "other", "way", "a", "b", "length"]) (sc := defScope s_law) (by decide +kernel)) (fun _ _ _ _ _ => (pg_tup rfl (pgs_cons (pg_name (i := 14) nd rfl (Or.inl rfl)) (pgs_cons (pg_name (i := 15) nd rfl (Or.inl rfl)) (pgs_cons (pg_name (i := 16) nd rfl (Or.inl rfl)) pgs_nil))))) (fun _ _ _ _ _ => pts_nil) (fun _ _ _ _ _ => (pe_callB (cr_sortedT Int hu128) (by rfl) nb.b_sorted (by decide +kernel) (pa_cons (pe_lst (pa_cons (pv 14) (pa_cons (pv 15) pa_nil))) pa_nil))))
  (pss_cons (ps_for (passes_of rfl) rfl (pi_range1 rfl nb.b_range (pa_cons (pv 6) pa_nil)) (pg_name (i := 12) nd rfl (Or.inl rfl)) (pss_one (ps_if (PW.pt (pw_and (pt_cmpR (op_ninT (List Int) hu64) (pe_callB (cr_sortedT Int hu128) (by rfl) nb.b_sorted (by decide +kernel) (pa_cons (pe_lst (pa_cons (pv 7) (pa_cons (pv 12) pa_nil))) pa_nil)) (pv 11) rfl) (pw_and1 (pt_cmpR (op_neT Str hu64) (pe_call G_law_asked (hr.mono (by decide)) rfl M_law_asked K_law_asked B_law_asked .nil (passes_call (takes_of rfl rfl rfl rfl) fun _ _ _ _ h => h) (pa_cons (pv 9) (pa_cons (pv 4) (pa_cons (pv 7) (pa_cons (pv 12) (pa_cons pe_int pa_nil)))))) pe_str (nomark _))))) (pss_one (ps_ret pe_bl)) pss_nil)))
  (pss_one (ps_if (pt_cmpR (op_neT ((List Int) × (List (T3 Int Int Int))) hu64) (pv 9) (pv 3) (nomark _)) (pss_one (ps_ret pe_bl)) pss_nil))))))))))))))
  (pss_one (ps_ret pe_bl))), ?_⟩
    refine ⟨_, _, rfl, rfl, (by decide), (by show 1 ≤ sizeLine; decide), fun p1 hp2 => ?_⟩
    have hl8 : RL (a := Int) F ([V.int ((10 : Int) ^ Int.toNat (18 : Int))]) ([((10 : Int) ^ Int.toNat (18 : Int))]) := RL.cons R.int RL.nil
    obtain ⟨F3, O4, S5, h6⟩ := O.putE hp2 (.lst ([V.int ((10 : Int) ^ Int.toNat (18 : Int))]))
    have f_script := S5.seq f_script
    have hl8 := hl8.mono S5
    have h7 := R.lst (a := Int) h6 hl8
    refine ⟨_, rfl, _, rfl, _, _, rfl, (O4.s.seq f_script), fun p9 hp10 => ?_⟩
    have hl16 : RL (a := Int) F3 (cutV (List.map V.int x_script) none (some (15 : Int))) (cutL x_script none (some (15 : Int))) := RL.cutL RL.of_ints none (some (15 : Int))
    obtain ⟨F11, O12, S13, h14⟩ := O4.putE hp10 (.lst (cutV (List.map V.int x_script) none (some (15 : Int))))
    have f_script := S13.seq f_script
    have h7 := h7.mono S13
    have hl16 := hl16.mono S13
    have h15 := R.lst (a := Int) h14 hl16
    obtain ⟨p17, w18, e19, h20, hl21⟩ := R.lst_ h7
    cases e19
    obtain ⟨p22, w23, e24, h25, hl26⟩ := R.lst_ h15
    cases e24
    obtain ⟨c27, hk⟩ := wp_chk hk
    refine ⟨_, _, _, _, rfl, rfl, (O12.s _ _ h20), (O12.s _ _ h25), (by rw [hl21.len, hl26.len]; exact le_line c27), fun p28 hp29 => ?_⟩
    have hl35 : RL (a := Int) F11 (w18 ++ w23) (([((10 : Int) ^ Int.toNat (18 : Int))]) ++ (cutL x_script none (some (15 : Int)))) := RL.app hl21 hl26
    obtain ⟨F30, O31, S32, h33⟩ := O12.putE hp29 (.lst (w18 ++ w23))
    have f_script := S32.seq f_script
    have h7 := h7.mono S32
    have h15 := h15.mono S32
    have h20 := S32 _ _ h20
    have hl21 := hl21.mono S32
    have h25 := S32 _ _ h25
    have hl26 := hl26.mono S32
    have hl35 := hl35.mono S32
    have h34 := R.lst (a := Int) h33 hl35
    obtain ⟨p36, w37, e38, h39, hl40⟩ := R.lst_ h34
    cases e38
    obtain ⟨L42, hL43, hLs44, hLd45⟩ := loopM_L hk
    refine ⟨_, rfl, ⟨_, (SqLF O31.s h39)⟩, ?_⟩
    refine for_list (K := K) (xs := w37) (fun i σ H => ∃ (F_ : Hp) (st : Unit) (t_0 : Option V) (t_1 : Option V) (t_2 : Option V) (t_3 : Option V) (t_4 : Option V) (t_5 : Option V) (t_6 : Option V) (t_7 : Option V) (t_8 : Option V) (t_9 : Option V) (t_10 : Option V) (t_11 : Option V) (t_12 : Option V), σ = [some (V.ref a_script), t_0, t_1, t_2, t_3, t_4, t_5, t_6, t_7, t_8, t_9, t_10, t_11, t_12, none, none, none] ∧ Same F30 F_ ∧ Ow _ F_ [] H ∧ L42 (List.drop i (([((10 : Int) ^ Int.toNat (18 : Int))]) ++ (cutL x_script none (some (15 : Int))))) st) ⟨F30, (), none, none, none, none, none, none, none, none, none, none, none, none, none, rfl, Same.refl _, O31, hL43⟩ (fun i_ σ_ H_ _ hp_ => ?_) ?_ ?_
    · obtain ⟨_, _, _, _, _, _, _, _, _, _, _, _, _, _, _, _, hS_, hO_, _⟩ := hp_
      exact SqLF hO_.s (hS_ _ _ h39)
    · rintro i46 x47 sg48 H49 hi50 ⟨F66, st52, t53, t54, t55, t56, t57, t58, t59, t60, t61, t62, t63, t64, t65, rfl, S51, O67, hL43⟩
      have f_script := S51.seq f_script
      have h7 := h7.mono S51
      have h15 := h15.mono S51
      have h20 := S51 _ _ h20
      have hl21 := hl21.mono S51
      have h25 := S51 _ _ h25
      have hl26 := hl26.mono S51
      have h34 := h34.mono S51
      have h39 := S51 _ _ h39
      have hl40 := hl40.mono S51
      obtain ⟨y41, e68, r69⟩ := RL.got hl40 hi50
      rw [drop_at e68] at hL43
      have hk := hLs44 _ _ _ hL43
      obtain rfl := R.int_ r69
      refine ⟨_, rfl, _, _, rfl, O67.pre0, wp_call hk (fun r71 er72 hk F73 H74 g75 p76 w77 hn78 hf79 h80 hl81 => ?_) (fun n hn C H1 hC kp => hn.elim)⟩
      have O82 := O67.call0 g75
      have S_ := g75.f
      have f_script := S_.seq f_script
      have h7 := h7.mono S_
      have h15 := h15.mono S_
      have h20 := S_ _ _ h20
      have hl21 := hl21.mono S_
      have h25 := S_ _ _ h25
      have hl26 := hl26.mono S_
      have h34 := h34.mono S_
      have h39 := S_ _ _ h39
      have hl40 := hl40.mono S_
      have S51 := S51.trans S_
      have O83 := O67.got O82 rfl hn78 hf79 h80
      have z84 := O67.was hn78
      refine ⟨_, rfl, _, _, _, _, _, _, rfl, (O83.pre1 0 rfl), hl81, wp_call hk (fun r85 er86 hk F87 H88 w90 g89 h91 hl92 v93 r94 => ?_) (fun n hn C H1 hC kp => hn.elim)⟩
      have O95 := O83.call1 g89 0 rfl h91
      have S_ := g89.f
      have f_script := S_.seq f_script
      have h7 := h7.mono S_
      have h15 := h15.mono S_
      have h20 := S_ _ _ h20
      have hl21 := hl21.mono S_
      have h25 := S_ _ _ h25
      have hl26 := hl26.mono S_
      have h34 := h34.mono S_
      have h39 := S_ _ _ h39
      have hl40 := hl40.mono S_
      have S51 := S51.trans S_
      refine ⟨_, rfl, _, _, _, _, _, rfl, (O95.pre1 0 rfl), hl92, wp_call hk (fun r96 er97 hk F98 H99 w101 g100 h102 hl103 v104 r105 => ?_) (fun n hn C H1 hC kp => hn.elim)⟩
      have O106 := O95.call1 g100 0 rfl h102
      have S_ := g100.f
      have f_script := S_.seq f_script
      have h7 := h7.mono S_
      have h15 := h15.mono S_
      have h20 := S_ _ _ h20
      have hl21 := hl21.mono S_
      have h25 := S_ _ _ h25
      have hl26 := hl26.mono S_
      have h34 := h34.mono S_
      have h39 := S_ _ _ h39
      have hl40 := hl40.mono S_
      have S51 := S51.trans S_
      have r94 := r94.mono S_
      refine ⟨(by show 1 ≤ sizeLine; decide), fun p107 hp108 => ?_⟩
      obtain ⟨F109, O110, S111, h112⟩ := O106.putE hp108 (.tup [V.str ("tie" : Str)])
      have f_script := S111.seq f_script
      have h7 := h7.mono S111
      have h15 := h15.mono S111
      have h20 := S111 _ _ h20
      have hl21 := hl21.mono S111
      have h25 := S111 _ _ h25
      have hl26 := hl26.mono S111
      have h34 := h34.mono S111
      have h39 := S111 _ _ h39
      have hl40 := hl40.mono S111
      have S51 := S51.trans S111
      have r94 := r94.mono S111
      have hl103 := hl103.mono S111
      have r105 := r105.mono S111
      have h113 := R.of_nam h112
      refine ⟨(by show 1 ≤ sizeLine; decide), fun p114 hp115 => ?_⟩
      have hl121 : RL (a := Sm) F109 ([V.ref p107]) ([(Sm.nam ("tie" : Str))]) := RL.cons h113 RL.nil
      obtain ⟨F116, O117, S118, h119⟩ := O110.putE hp115 (.lst ([V.ref p107]))
      have f_script := S118.seq f_script
      have h7 := h7.mono S118
      have h15 := h15.mono S118
      have h20 := S118 _ _ h20
      have hl21 := hl21.mono S118
      have h25 := S118 _ _ h25
      have hl26 := hl26.mono S118
      have h34 := h34.mono S118
      have h39 := S118 _ _ h39
      have hl40 := hl40.mono S118
      have S51 := S51.trans S118
      have r94 := r94.mono S118
      have hl103 := hl103.mono S118
      have r105 := r105.mono S118
      have h113 := h113.mono S118
      have hl121 := hl121.mono S118
      have h120 := R.lst (a := Sm) h119 hl121
      refine ⟨(by show 2 ≤ sizeLine; decide), fun p122 hp123 => ?_⟩
      obtain ⟨F124, O125, S126, h127⟩ := O117.putE hp123 (.tup [V.str ("more" : Str), V.int (0 : Int)])
      have f_script := S126.seq f_script
      have h7 := h7.mono S126
      have h15 := h15.mono S126
      have h20 := S126 _ _ h20
      have hl21 := hl21.mono S126
      have h25 := S126 _ _ h25
      have hl26 := hl26.mono S126
      have h34 := h34.mono S126
      have h39 := S126 _ _ h39
      have hl40 := hl40.mono S126
      have S51 := S51.trans S126
      have r94 := r94.mono S126
      have hl103 := hl103.mono S126
      have r105 := r105.mono S126
      have h113 := h113.mono S126
      have h120 := h120.mono S126
      have h128 : R (a := (Str × Int)) F124 (.ref p122) (("more" : Str), (0 : Int)) := R.t2 h127 R.str R.int
      refine ⟨(by show 1 ≤ sizeLine; decide), fun p129 hp130 => ?_⟩
      have hl136 : RL (a := Sm) F124 ([V.ref p122]) ([(Sm.num (("more" : Str), (0 : Int)).1 (("more" : Str), (0 : Int)).2)]) := RL.cons (R.of_num h128) RL.nil
      obtain ⟨F131, O132, S133, h134⟩ := O125.putE hp130 (.lst ([V.ref p122]))
      have f_script := S133.seq f_script
      have h7 := h7.mono S133
      have h15 := h15.mono S133
      have h20 := S133 _ _ h20
      have hl21 := hl21.mono S133
      have h25 := S133 _ _ h25
      have hl26 := hl26.mono S133
      have h34 := h34.mono S133
      have h39 := S133 _ _ h39
      have hl40 := hl40.mono S133
      have S51 := S51.trans S133
      have r94 := r94.mono S133
      have hl103 := hl103.mono S133
      have r105 := r105.mono S133
      have h113 := h113.mono S133
      have h120 := h120.mono S133
      have h128 := h128.mono S133
      have hl136 := hl136.mono S133
      have h135 := R.lst (a := Sm) h134 hl136
      refine ⟨(by show 2 ≤ sizeLine; decide), fun p137 hp138 => ?_⟩
      obtain ⟨F139, O140, S141, h142⟩ := O132.putE hp138 (.tup [V.str ("so" : Str), V.int (0 : Int)])
      have f_script := S141.seq f_script
      have h7 := h7.mono S141
      have h15 := h15.mono S141
      have h20 := S141 _ _ h20
      have hl21 := hl21.mono S141
      have h25 := S141 _ _ h25
      have hl26 := hl26.mono S141
      have h34 := h34.mono S141
      have h39 := S141 _ _ h39
      have hl40 := hl40.mono S141
      have S51 := S51.trans S141
      have r94 := r94.mono S141
      have hl103 := hl103.mono S141
      have r105 := r105.mono S141
      have h113 := h113.mono S141
      have h120 := h120.mono S141
      have h128 := h128.mono S141
      have h135 := h135.mono S141
      have h143 : R (a := (Str × Int)) F139 (.ref p137) (("so" : Str), (0 : Int)) := R.t2 h142 R.str R.int
      refine ⟨(by show 1 ≤ sizeLine; decide), fun p144 hp145 => ?_⟩
      have hl151 : RL (a := Sm) F139 ([V.ref p137]) ([(Sm.num (("so" : Str), (0 : Int)).1 (("so" : Str), (0 : Int)).2)]) := RL.cons (R.of_num h143) RL.nil
      obtain ⟨F146, O147, S148, h149⟩ := O140.putE hp145 (.lst ([V.ref p137]))
      have f_script := S148.seq f_script
      have h7 := h7.mono S148
      have h15 := h15.mono S148
      have h20 := S148 _ _ h20
      have hl21 := hl21.mono S148
      have h25 := S148 _ _ h25
      have hl26 := hl26.mono S148
      have h34 := h34.mono S148
      have h39 := S148 _ _ h39
      have hl40 := hl40.mono S148
      have S51 := S51.trans S148
      have r94 := r94.mono S148
      have hl103 := hl103.mono S148
      have r105 := r105.mono S148
      have h113 := h113.mono S148
      have h120 := h120.mono S148
      have h128 := h128.mono S148
      have h135 := h135.mono S148
      have h143 := h143.mono S148
      have hl151 := hl151.mono S148
      have h150 := R.lst (a := Sm) h149 hl151
      refine ⟨(by show 2 ≤ sizeLine; decide), fun p152 hp153 => ?_⟩
      obtain ⟨F154, O155, S156, h157⟩ := O147.putE hp153 (.tup [V.str ("so" : Str), V.int (0 : Int)])
      have f_script := S156.seq f_script
      have h7 := h7.mono S156
      have h15 := h15.mono S156
      have h20 := S156 _ _ h20
      have hl21 := hl21.mono S156
      have h25 := S156 _ _ h25
      have hl26 := hl26.mono S156
      have h34 := h34.mono S156
      have h39 := S156 _ _ h39
      have hl40 := hl40.mono S156
      have S51 := S51.trans S156
      have r94 := r94.mono S156
      have hl103 := hl103.mono S156
      have r105 := r105.mono S156
      have h113 := h113.mono S156
      have h120 := h120.mono S156
      have h128 := h128.mono S156
      have h135 := h135.mono S156
      have h143 := h143.mono S156
      have h150 := h150.mono S156
      have h158 : R (a := (Str × Int)) F154 (.ref p152) (("so" : Str), (0 : Int)) := R.t2 h157 R.str R.int
      refine ⟨(by show 4 ≤ sizeLine; decide), fun p159 hp160 => ?_⟩
      have h166 := (R.of_num h158)
      obtain ⟨F161, O162, S163, h164⟩ := O155.putE hp160 (.tup [V.ref p114, V.ref p129, V.ref p144, V.ref p152])
      have f_script := S163.seq f_script
      have h7 := h7.mono S163
      have h15 := h15.mono S163
      have h20 := S163 _ _ h20
      have hl21 := hl21.mono S163
      have h25 := S163 _ _ h25
      have hl26 := hl26.mono S163
      have h34 := h34.mono S163
      have h39 := S163 _ _ h39
      have hl40 := hl40.mono S163
      have S51 := S51.trans S163
      have r94 := r94.mono S163
      have hl103 := hl103.mono S163
      have r105 := r105.mono S163
      have h113 := h113.mono S163
      have h120 := h120.mono S163
      have h128 := h128.mono S163
      have h135 := h135.mono S163
      have h143 := h143.mono S163
      have h150 := h150.mono S163
      have h158 := h158.mono S163
      have h166 := h166.mono S163
      have h165 : R (a := (T4 (List Sm) (List Sm) (List Sm) Sm)) F161 (.ref p159) (T4.mk ([(Sm.nam ("tie" : Str))]) ([(Sm.num (("more" : Str), (0 : Int)).1 (("more" : Str), (0 : Int)).2)]) ([(Sm.num (("so" : Str), (0 : Int)).1 (("so" : Str), (0 : Int)).2)]) (Sm.num (("so" : Str), (0 : Int)).1 (("so" : Str), (0 : Int)).2)) := R.t4 h164 h120 h135 h150 h166
      obtain ⟨p167, v170, v171, e168, h169, r172, r173⟩ := R.t2_ r94
      cases e168
      obtain ⟨p174, w175, e176, h177, hl178⟩ := R.lst_ r172
      cases e176
      refine ⟨_, rfl, _, _, _, _, rfl, rfl, (SqTF O162.s h169), rfl, _, _, _, rfl, (.inl (O162.s _ _ h177)), hl178.len, _, rfl, _, rfl, _, _, _, _, _, rfl, (O162.pre1 0 rfl), hl103, wp_call hk (fun r179 er180 hk F181 H182 w184 g183 h185 hl186 => ?_) (fun n hn C H1 hC kp => hn.elim)⟩
      have O187 := O162.call1 g183 0 rfl h185
      have S_ := g183.f
      have f_script := S_.seq f_script
      have h7 := h7.mono S_
      have h15 := h15.mono S_
      have h20 := S_ _ _ h20
      have hl21 := hl21.mono S_
      have h25 := S_ _ _ h25
      have hl26 := hl26.mono S_
      have h34 := h34.mono S_
      have h39 := S_ _ _ h39
      have hl40 := hl40.mono S_
      have S51 := S51.trans S_
      have r94 := r94.mono S_
      have r105 := r105.mono S_
      have h113 := h113.mono S_
      have h120 := h120.mono S_
      have h128 := h128.mono S_
      have h135 := h135.mono S_
      have h143 := h143.mono S_
      have h150 := h150.mono S_
      have h158 := h158.mono S_
      have h166 := h166.mono S_
      have h165 := h165.mono S_
      have h169 := S_ _ _ h169
      have r172 := r172.mono S_
      have r173 := r173.mono S_
      have h177 := S_ _ _ h177
      have hl178 := hl178.mono S_
      refine ⟨_, rfl, _, _, rfl, rfl, (by decide), (by show 3 ≤ sizeLine; decide), fun p188 hp189 => ?_⟩
      have hl195 : RL (a := Int) F181 ([V.int (1 : Int), V.int (3 : Int), V.int ((10 : Int) ^ Int.toNat (30 : Int))]) ([(1 : Int), (3 : Int), ((10 : Int) ^ Int.toNat (30 : Int))]) := RL.cons R.int (RL.cons R.int (RL.cons R.int RL.nil))
      obtain ⟨F190, O191, S192, h193⟩ := O187.putE hp189 (.lst ([V.int (1 : Int), V.int (3 : Int), V.int ((10 : Int) ^ Int.toNat (30 : Int))]))
      have f_script := S192.seq f_script
      have h7 := h7.mono S192
      have h15 := h15.mono S192
      have h20 := S192 _ _ h20
      have hl21 := hl21.mono S192
      have h25 := S192 _ _ h25
      have hl26 := hl26.mono S192
      have h34 := h34.mono S192
      have h39 := S192 _ _ h39
      have hl40 := hl40.mono S192
      have S51 := S51.trans S192
      have r94 := r94.mono S192
      have r105 := r105.mono S192
      have h113 := h113.mono S192
      have h120 := h120.mono S192
      have h128 := h128.mono S192
      have h135 := h135.mono S192
      have h143 := h143.mono S192
      have h150 := h150.mono S192
      have h158 := h158.mono S192
      have h166 := h166.mono S192
      have h165 := h165.mono S192
      have h169 := S192 _ _ h169
      have r172 := r172.mono S192
      have r173 := r173.mono S192
      have h177 := S192 _ _ h177
      have hl178 := hl178.mono S192
      have hl186 := hl186.mono S192
      have hl195 := hl195.mono S192
      have h194 := R.lst (a := Int) h193 hl195
      refine ⟨_, rfl, _, _, _, _, _, rfl, (O191.pre1 0 rfl), hl186, wp_call hk (fun r196 er197 hk F198 H199 w201 g200 h202 hl203 => ?_) (fun n hn C H1 hC kp => hn.elim)⟩
      have O204 := O191.call1 g200 0 rfl h202
      have S_ := g200.f
      have f_script := S_.seq f_script
      have h7 := h7.mono S_
      have h15 := h15.mono S_
      have h20 := S_ _ _ h20
      have hl21 := hl21.mono S_
      have h25 := S_ _ _ h25
      have hl26 := hl26.mono S_
      have h34 := h34.mono S_
      have h39 := S_ _ _ h39
      have hl40 := hl40.mono S_
      have S51 := S51.trans S_
      have r94 := r94.mono S_
      have r105 := r105.mono S_
      have h113 := h113.mono S_
      have h120 := h120.mono S_
      have h128 := h128.mono S_
      have h135 := h135.mono S_
      have h143 := h143.mono S_
      have h150 := h150.mono S_
      have h158 := h158.mono S_
      have h166 := h166.mono S_
      have h165 := h165.mono S_
      have h169 := S_ _ _ h169
      have r172 := r172.mono S_
      have r173 := r173.mono S_
      have h177 := S_ _ _ h177
      have hl178 := hl178.mono S_
      have h194 := h194.mono S_
      obtain ⟨p205, w206, e207, h208, hl209⟩ := R.lst_ h194
      cases e207
      obtain ⟨y210, e211, hk⟩ := wp_opt hk
      obtain ⟨w212, e213, r214⟩ := hl209.atI e211
      obtain rfl := R.int_ r214
      refine ⟨_, _, _, _, rfl, rfl, (SqLF O204.s h208), e213, _, _, _, _, _, rfl, (O204.pre1 0 rfl), hl203, wp_call hk (fun r215 er216 hk F217 H218 w220 g219 h221 hl222 => ?_) (fun n hn C H1 hC kp => hn.elim)⟩
      have O223 := O204.call1 g219 0 rfl h221
      have S_ := g219.f
      have f_script := S_.seq f_script
      have h7 := h7.mono S_
      have h15 := h15.mono S_
      have h20 := S_ _ _ h20
      have hl21 := hl21.mono S_
      have h25 := S_ _ _ h25
      have hl26 := hl26.mono S_
      have h34 := h34.mono S_
      have h39 := S_ _ _ h39
      have hl40 := hl40.mono S_
      have S51 := S51.trans S_
      have r94 := r94.mono S_
      have r105 := r105.mono S_
      have h113 := h113.mono S_
      have h120 := h120.mono S_
      have h128 := h128.mono S_
      have h135 := h135.mono S_
      have h143 := h143.mono S_
      have h150 := h150.mono S_
      have h158 := h158.mono S_
      have h166 := h166.mono S_
      have h165 := h165.mono S_
      have h169 := S_ _ _ h169
      have r172 := r172.mono S_
      have r173 := r173.mono S_
      have h177 := S_ _ _ h177
      have hl178 := hl178.mono S_
      have h194 := h194.mono S_
      have h208 := S_ _ _ h208
      have hl209 := hl209.mono S_
      refine ⟨_, rfl, _, _, _, rfl, O223.pre0, r94, wp_call hk (fun r224 er225 hk F226 H227 g228 v229 r230 => ?_) (fun n hn C H1 hC kp => hn.elim)⟩
      have O231 := O223.call0 g228
      have S_ := g228.f
      have f_script := S_.seq f_script
      have h7 := h7.mono S_
      have h15 := h15.mono S_
      have h20 := S_ _ _ h20
      have hl21 := hl21.mono S_
      have h25 := S_ _ _ h25
      have hl26 := hl26.mono S_
      have h34 := h34.mono S_
      have h39 := S_ _ _ h39
      have hl40 := hl40.mono S_
      have S51 := S51.trans S_
      have r94 := r94.mono S_
      have r105 := r105.mono S_
      have h113 := h113.mono S_
      have h120 := h120.mono S_
      have h128 := h128.mono S_
      have h135 := h135.mono S_
      have h143 := h143.mono S_
      have h150 := h150.mono S_
      have h158 := h158.mono S_
      have h166 := h166.mono S_
      have h165 := h165.mono S_
      have h169 := S_ _ _ h169
      have r172 := r172.mono S_
      have r173 := r173.mono S_
      have h177 := S_ _ _ h177
      have hl178 := hl178.mono S_
      have h194 := h194.mono S_
      have h208 := S_ _ _ h208
      have hl209 := hl209.mono S_
      have hl222 := hl222.mono S_
      refine ⟨_, rfl, _, rfl, _, _, rfl, rfl, _, rfl, _, rfl, _, _, rfl, rfl, (by show 2 ≤ sizeLine; decide), fun p232 hp233 => ?_⟩
      have hl239 : RL (a := Int) F226 ([V.int ((-(1 : Int)) - r215.1), V.int ((r85.1.1.length : Int) + r215.1)]) ([((-(1 : Int)) - r215.1), ((r85.1.1.length : Int) + r215.1)]) := RL.cons R.int (RL.cons R.int RL.nil)
      obtain ⟨F234, O235, S236, h237⟩ := O231.putE hp233 (.lst ([V.int ((-(1 : Int)) - r215.1), V.int ((r85.1.1.length : Int) + r215.1)]))
      have f_script := S236.seq f_script
      have h7 := h7.mono S236
      have h15 := h15.mono S236
      have h20 := S236 _ _ h20
      have hl21 := hl21.mono S236
      have h25 := S236 _ _ h25
      have hl26 := hl26.mono S236
      have h34 := h34.mono S236
      have h39 := S236 _ _ h39
      have hl40 := hl40.mono S236
      have S51 := S51.trans S236
      have r94 := r94.mono S236
      have r105 := r105.mono S236
      have h113 := h113.mono S236
      have h120 := h120.mono S236
      have h128 := h128.mono S236
      have h135 := h135.mono S236
      have h143 := h143.mono S236
      have h150 := h150.mono S236
      have h158 := h158.mono S236
      have h166 := h166.mono S236
      have h165 := h165.mono S236
      have h169 := S236 _ _ h169
      have r172 := r172.mono S236
      have r173 := r173.mono S236
      have h177 := S236 _ _ h177
      have hl178 := hl178.mono S236
      have h194 := h194.mono S236
      have h208 := S236 _ _ h208
      have hl209 := hl209.mono S236
      have hl222 := hl222.mono S236
      have r230 := r230.mono S236
      have hl239 := hl239.mono S236
      have h238 := R.lst (a := Int) h237 hl239
      obtain ⟨p240, w241, e242, h243, hl244⟩ := R.lst_ h238
      cases e242
      obtain ⟨L246, hL247, hLs248, hLd249⟩ := loopM_L hk
      refine ⟨_, rfl, ⟨_, (SqLF O235.s h243)⟩, ?_⟩
      refine for_list (K := K) (xs := w241) (fun i σ H => ∃ (F_ : Hp) (st : Unit) (t_0 : Option V) (t_1 : Option V), σ = [some (V.ref a_script), some (V.int y41), some (V.ref p76), some (V.ref p167), some v104, some (V.ref p159), some (V.int (r85.1.1.length : Int)), some (V.int r179.1), some (V.int r215.1), some v229, t_0, t63, t64, t_1, none, none, none] ∧ Same F234 F_ ∧ Ow _ F_ [(p76, .lst w220)] H ∧ L246 (List.drop i ([((-(1 : Int)) - r215.1), ((r85.1.1.length : Int) + r215.1)])) st) ⟨F234, (), t62, t65, rfl, Same.refl _, O235, hL247⟩ (fun i_ σ_ H_ _ hp_ => ?_) ?_ ?_
      · obtain ⟨_, _, _, _, _, hS_, hO_, _⟩ := hp_
        exact SqLF hO_.s (hS_ _ _ h243)
      · rintro i250 x251 sg252 H253 hi254 ⟨F259, st256, t257, t258, rfl, S255, O260, hL247⟩
        have f_script := S255.seq f_script
        have h7 := h7.mono S255
        have h15 := h15.mono S255
        have h20 := S255 _ _ h20
        have hl21 := hl21.mono S255
        have h25 := S255 _ _ h25
        have hl26 := hl26.mono S255
        have h34 := h34.mono S255
        have h39 := S255 _ _ h39
        have hl40 := hl40.mono S255
        have S51 := S51.trans S255
        have r94 := r94.mono S255
        have r105 := r105.mono S255
        have h113 := h113.mono S255
        have h120 := h120.mono S255
        have h128 := h128.mono S255
        have h135 := h135.mono S255
        have h143 := h143.mono S255
        have h150 := h150.mono S255
        have h158 := h158.mono S255
        have h166 := h166.mono S255
        have h165 := h165.mono S255
        have h169 := S255 _ _ h169
        have r172 := r172.mono S255
        have r173 := r173.mono S255
        have h177 := S255 _ _ h177
        have hl178 := hl178.mono S255
        have h194 := h194.mono S255
        have h208 := S255 _ _ h208
        have hl209 := hl209.mono S255
        have hl222 := hl222.mono S255
        have r230 := r230.mono S255
        have h238 := h238.mono S255
        have h243 := S255 _ _ h243
        have hl244 := hl244.mono S255
        obtain ⟨y245, e261, r262⟩ := RL.got hl244 hi254
        rw [drop_at e261] at hL247
        have hk := hLs248 _ _ _ hL247
        obtain rfl := R.int_ r262
        obtain ⟨c264, hk⟩ := wp_chk hk
        obtain ⟨L265, hL266, hLs267, hLd268⟩ := loopM_L hk
        refine ⟨_, rfl, c264.lo, c264.hi, ?_⟩
        refine for_range (lo := 0) (n := ((4 : Int)).toNat) (fun i σ H => ∃ (F_ : Hp) (st : Unit) (t_0 : Option V), σ = [some (V.ref a_script), some (V.int y41), some (V.ref p76), some (V.ref p167), some v104, some (V.ref p159), some (V.int (r85.1.1.length : Int)), some (V.int r179.1), some (V.int r215.1), some v229, some (V.int y245), t63, t64, t_0, none, none, none] ∧ Same F259 F_ ∧ Ow _ F_ [(p76, .lst w220)] H ∧ L265 (List.drop i (rangeL 0 (4 : Int))) st) ⟨F259, (), t258, rfl, Same.refl _, O260, hL266⟩ ?_ ?_
        · rintro i269 sg271 H272 hi273 ⟨F277, st275, t276, rfl, S274, O278, hL266⟩
          have f_script := S274.seq f_script
          have h7 := h7.mono S274
          have h15 := h15.mono S274
          have h20 := S274 _ _ h20
          have hl21 := hl21.mono S274
          have h25 := S274 _ _ h25
          have hl26 := hl26.mono S274
          have h34 := h34.mono S274
          have h39 := S274 _ _ h39
          have hl40 := hl40.mono S274
          have S51 := S51.trans S274
          have r94 := r94.mono S274
          have r105 := r105.mono S274
          have h113 := h113.mono S274
          have h120 := h120.mono S274
          have h128 := h128.mono S274
          have h135 := h135.mono S274
          have h143 := h143.mono S274
          have h150 := h150.mono S274
          have h158 := h158.mono S274
          have h166 := h166.mono S274
          have h165 := h165.mono S274
          have h169 := S274 _ _ h169
          have r172 := r172.mono S274
          have r173 := r173.mono S274
          have h177 := S274 _ _ h177
          have hl178 := hl178.mono S274
          have h194 := h194.mono S274
          have h208 := S274 _ _ h208
          have hl209 := hl209.mono S274
          have hl222 := hl222.mono S274
          have r230 := r230.mono S274
          have h238 := h238.mono S274
          have h243 := S274 _ _ h243
          have hl244 := hl244.mono S274
          have S255 := S255.trans S274
          rw [rangeL_get0 hi273] at hL266
          have hk := hLs267 _ _ _ hL266
          obtain ⟨y263, he_⟩ : ∃ z_, z_ = 0 + (i269 : Int) := ⟨_, rfl⟩
          try rw [← he_] at hk
          rw [← he_]
          refine ⟨_, rfl, _, rfl, _, rfl, _, rfl, _, rfl, _, _, _, _, _, _, _, _, rfl, O278.pre0, r230, r105, wp_call hk (fun r279 er280 hk F281 H282 g283 => ?_) (fun n hn C H1 hC kp => hn.elim)⟩
          have O284 := O278.call0 g283
          have S_ := g283.f
          have f_script := S_.seq f_script
          have h7 := h7.mono S_
          have h15 := h15.mono S_
          have h20 := S_ _ _ h20
          have hl21 := hl21.mono S_
          have h25 := S_ _ _ h25
          have hl26 := hl26.mono S_
          have h34 := h34.mono S_
          have h39 := S_ _ _ h39
          have hl40 := hl40.mono S_
          have S51 := S51.trans S_
          have r94 := r94.mono S_
          have r105 := r105.mono S_
          have h113 := h113.mono S_
          have h120 := h120.mono S_
          have h128 := h128.mono S_
          have h135 := h135.mono S_
          have h143 := h143.mono S_
          have h150 := h150.mono S_
          have h158 := h158.mono S_
          have h166 := h166.mono S_
          have h165 := h165.mono S_
          have h169 := S_ _ _ h169
          have r172 := r172.mono S_
          have r173 := r173.mono S_
          have h177 := S_ _ _ h177
          have hl178 := hl178.mono S_
          have h194 := h194.mono S_
          have h208 := S_ _ _ h208
          have hl209 := hl209.mono S_
          have hl222 := hl222.mono S_
          have r230 := r230.mono S_
          have h238 := h238.mono S_
          have h243 := S_ _ _ h243
          have hl244 := hl244.mono S_
          have S255 := S255.trans S_
          have S274 := S274.trans S_
          refine ⟨_, _, R.str, R.str, _, rfl, ?_⟩
          refine iteD (fun q285 => ?_) (fun q285 => ?_)
          · have hk := wp_if hk q285
            exact hk _ _  O284.g 
          · have hk := wp_el hk q285
            exact ⟨F281, (), some (V.int y263), rfl, S274, O284, hk⟩
        rintro sg286 H287 ⟨F292, st289, t291, rfl, S288, O293, hL290⟩
        rw [rangeL_end0] at hL290
        have hk := hLd268 _ hL290
        have f_script := S288.seq f_script
        have h7 := h7.mono S288
        have h15 := h15.mono S288
        have h20 := S288 _ _ h20
        have hl21 := hl21.mono S288
        have h25 := S288 _ _ h25
        have hl26 := hl26.mono S288
        have h34 := h34.mono S288
        have h39 := S288 _ _ h39
        have hl40 := hl40.mono S288
        have S51 := S51.trans S288
        have r94 := r94.mono S288
        have r105 := r105.mono S288
        have h113 := h113.mono S288
        have h120 := h120.mono S288
        have h128 := h128.mono S288
        have h135 := h135.mono S288
        have h143 := h143.mono S288
        have h150 := h150.mono S288
        have h158 := h158.mono S288
        have h166 := h166.mono S288
        have h165 := h165.mono S288
        have h169 := S288 _ _ h169
        have r172 := r172.mono S288
        have r173 := r173.mono S288
        have h177 := S288 _ _ h177
        have hl178 := hl178.mono S288
        have h194 := h194.mono S288
        have h208 := S288 _ _ h208
        have hl209 := hl209.mono S288
        have hl222 := hl222.mono S288
        have r230 := r230.mono S288
        have h238 := h238.mono S288
        have h243 := S288 _ _ h243
        have hl244 := hl244.mono S288
        have S255 := S255.trans S288
        refine ⟨(by show 2 ≤ sizeLine; decide), fun p295 hp296 => ?_⟩
        have hl302 : RL (a := Int) F292 ([V.int (1 : Int), V.int (3 : Int)]) ([(1 : Int), (3 : Int)]) := RL.cons R.int (RL.cons R.int RL.nil)
        obtain ⟨F297, O298, S299, h300⟩ := O293.putE hp296 (.lst ([V.int (1 : Int), V.int (3 : Int)]))
        have f_script := S299.seq f_script
        have h7 := h7.mono S299
        have h15 := h15.mono S299
        have h20 := S299 _ _ h20
        have hl21 := hl21.mono S299
        have h25 := S299 _ _ h25
        have hl26 := hl26.mono S299
        have h34 := h34.mono S299
        have h39 := S299 _ _ h39
        have hl40 := hl40.mono S299
        have S51 := S51.trans S299
        have r94 := r94.mono S299
        have r105 := r105.mono S299
        have h113 := h113.mono S299
        have h120 := h120.mono S299
        have h128 := h128.mono S299
        have h135 := h135.mono S299
        have h143 := h143.mono S299
        have h150 := h150.mono S299
        have h158 := h158.mono S299
        have h166 := h166.mono S299
        have h165 := h165.mono S299
        have h169 := S299 _ _ h169
        have r172 := r172.mono S299
        have r173 := r173.mono S299
        have h177 := S299 _ _ h177
        have hl178 := hl178.mono S299
        have h194 := h194.mono S299
        have h208 := S299 _ _ h208
        have hl209 := hl209.mono S299
        have hl222 := hl222.mono S299
        have r230 := r230.mono S299
        have h238 := h238.mono S299
        have h243 := S299 _ _ h243
        have hl244 := hl244.mono S299
        have S255 := S255.trans S299
        have hl302 := hl302.mono S299
        have h301 := R.lst (a := Int) h300 hl302
        obtain ⟨p303, w304, e305, h306, hl307⟩ := R.lst_ h301
        cases e305
        obtain ⟨L309, hL310, hLs311, hLd312⟩ := loopM_L hk
        refine ⟨_, rfl, ⟨_, (SqLF O298.s h306)⟩, ?_⟩
        refine for_list (K := K) (xs := w304) (fun i σ H => ∃ (F_ : Hp) (st : Unit) (t_0 : Option V), σ = [some (V.ref a_script), some (V.int y41), some (V.ref p76), some (V.ref p167), some v104, some (V.ref p159), some (V.int (r85.1.1.length : Int)), some (V.int r179.1), some (V.int r215.1), some v229, some (V.int y245), t63, t64, t_0, none, none, none] ∧ Same F297 F_ ∧ Ow _ F_ [(p76, .lst w220)] H ∧ L309 (List.drop i ([(1 : Int), (3 : Int)])) st) ⟨F297, (), t291, rfl, Same.refl _, O298, hL310⟩ (fun i_ σ_ H_ _ hp_ => ?_) ?_ ?_
        · obtain ⟨_, _, _, _, hS_, hO_, _⟩ := hp_
          exact SqLF hO_.s (hS_ _ _ h306)
        · rintro i313 x314 sg315 H316 hi317 ⟨F321, st319, t320, rfl, S318, O322, hL310⟩
          have f_script := S318.seq f_script
          have h7 := h7.mono S318
          have h15 := h15.mono S318
          have h20 := S318 _ _ h20
          have hl21 := hl21.mono S318
          have h25 := S318 _ _ h25
          have hl26 := hl26.mono S318
          have h34 := h34.mono S318
          have h39 := S318 _ _ h39
          have hl40 := hl40.mono S318
          have S51 := S51.trans S318
          have r94 := r94.mono S318
          have r105 := r105.mono S318
          have h113 := h113.mono S318
          have h120 := h120.mono S318
          have h128 := h128.mono S318
          have h135 := h135.mono S318
          have h143 := h143.mono S318
          have h150 := h150.mono S318
          have h158 := h158.mono S318
          have h166 := h166.mono S318
          have h165 := h165.mono S318
          have h169 := S318 _ _ h169
          have r172 := r172.mono S318
          have r173 := r173.mono S318
          have h177 := S318 _ _ h177
          have hl178 := hl178.mono S318
          have h194 := h194.mono S318
          have h208 := S318 _ _ h208
          have hl209 := hl209.mono S318
          have hl222 := hl222.mono S318
          have r230 := r230.mono S318
          have h238 := h238.mono S318
          have h243 := S318 _ _ h243
          have hl244 := hl244.mono S318
          have S255 := S255.trans S318
          have h301 := h301.mono S318
          have h306 := S318 _ _ h306
          have hl307 := hl307.mono S318
          obtain ⟨y308, e323, r324⟩ := RL.got hl307 hi317
          rw [drop_at e323] at hL310
          have hk := hLs311 _ _ _ hL310
          obtain rfl := R.int_ r324
          refine ⟨_, rfl, _, rfl, _, rfl, _, rfl, _, rfl, _, _, _, _, _, _, _, _, rfl, O322.pre0, r230, r105, wp_call hk (fun r325 er326 hk F327 H328 g329 => ?_) (fun n hn C H1 hC kp => hn.elim)⟩
          have O330 := O322.call0 g329
          have S_ := g329.f
          have f_script := S_.seq f_script
          have h7 := h7.mono S_
          have h15 := h15.mono S_
          have h20 := S_ _ _ h20
          have hl21 := hl21.mono S_
          have h25 := S_ _ _ h25
          have hl26 := hl26.mono S_
          have h34 := h34.mono S_
          have h39 := S_ _ _ h39
          have hl40 := hl40.mono S_
          have S51 := S51.trans S_
          have r94 := r94.mono S_
          have r105 := r105.mono S_
          have h113 := h113.mono S_
          have h120 := h120.mono S_
          have h128 := h128.mono S_
          have h135 := h135.mono S_
          have h143 := h143.mono S_
          have h150 := h150.mono S_
          have h158 := h158.mono S_
          have h166 := h166.mono S_
          have h165 := h165.mono S_
          have h169 := S_ _ _ h169
          have r172 := r172.mono S_
          have r173 := r173.mono S_
          have h177 := S_ _ _ h177
          have hl178 := hl178.mono S_
          have h194 := h194.mono S_
          have h208 := S_ _ _ h208
          have hl209 := hl209.mono S_
          have hl222 := hl222.mono S_
          have r230 := r230.mono S_
          have h238 := h238.mono S_
          have h243 := S_ _ _ h243
          have hl244 := hl244.mono S_
          have S255 := S255.trans S_
          have h301 := h301.mono S_
          have h306 := S_ _ _ h306
          have hl307 := hl307.mono S_
          have S318 := S318.trans S_
          refine ⟨_, _, R.str, R.str, _, rfl, ?_⟩
          refine iteD (fun q331 => ?_) (fun q331 => ?_)
          · have hk := wp_if hk q331
            exact hk _ _  O330.g 
          · have hk := wp_el hk q331
            exact ⟨F327, (), some (V.int y308), rfl, S318, O330, hk⟩
        rintro sg332 H333 ⟨F338, st335, t337, rfl, S334, O339, hL336⟩
        rw [drop_end hl307.len] at hL336
        have hk := hLd312 _ hL336
        have f_script := S334.seq f_script
        have h7 := h7.mono S334
        have h15 := h15.mono S334
        have h20 := S334 _ _ h20
        have hl21 := hl21.mono S334
        have h25 := S334 _ _ h25
        have hl26 := hl26.mono S334
        have h34 := h34.mono S334
        have h39 := S334 _ _ h39
        have hl40 := hl40.mono S334
        have S51 := S51.trans S334
        have r94 := r94.mono S334
        have r105 := r105.mono S334
        have h113 := h113.mono S334
        have h120 := h120.mono S334
        have h128 := h128.mono S334
        have h135 := h135.mono S334
        have h143 := h143.mono S334
        have h150 := h150.mono S334
        have h158 := h158.mono S334
        have h166 := h166.mono S334
        have h165 := h165.mono S334
        have h169 := S334 _ _ h169
        have r172 := r172.mono S334
        have r173 := r173.mono S334
        have h177 := S334 _ _ h177
        have hl178 := hl178.mono S334
        have h194 := h194.mono S334
        have h208 := S334 _ _ h208
        have hl209 := hl209.mono S334
        have hl222 := hl222.mono S334
        have r230 := r230.mono S334
        have h238 := h238.mono S334
        have h243 := S334 _ _ h243
        have hl244 := hl244.mono S334
        have S255 := S255.trans S334
        have h301 := h301.mono S334
        have h306 := S334 _ _ h306
        have hl307 := hl307.mono S334
        refine ⟨(by show 2 ≤ sizeLine; decide), fun p341 hp342 => ?_⟩
        have hl348 : RL (a := Int) F338 ([V.int (2 : Int), V.int (3 : Int)]) ([(2 : Int), (3 : Int)]) := RL.cons R.int (RL.cons R.int RL.nil)
        obtain ⟨F343, O344, S345, h346⟩ := O339.putE hp342 (.lst ([V.int (2 : Int), V.int (3 : Int)]))
        have f_script := S345.seq f_script
        have h7 := h7.mono S345
        have h15 := h15.mono S345
        have h20 := S345 _ _ h20
        have hl21 := hl21.mono S345
        have h25 := S345 _ _ h25
        have hl26 := hl26.mono S345
        have h34 := h34.mono S345
        have h39 := S345 _ _ h39
        have hl40 := hl40.mono S345
        have S51 := S51.trans S345
        have r94 := r94.mono S345
        have r105 := r105.mono S345
        have h113 := h113.mono S345
        have h120 := h120.mono S345
        have h128 := h128.mono S345
        have h135 := h135.mono S345
        have h143 := h143.mono S345
        have h150 := h150.mono S345
        have h158 := h158.mono S345
        have h166 := h166.mono S345
        have h165 := h165.mono S345
        have h169 := S345 _ _ h169
        have r172 := r172.mono S345
        have r173 := r173.mono S345
        have h177 := S345 _ _ h177
        have hl178 := hl178.mono S345
        have h194 := h194.mono S345
        have h208 := S345 _ _ h208
        have hl209 := hl209.mono S345
        have hl222 := hl222.mono S345
        have r230 := r230.mono S345
        have h238 := h238.mono S345
        have h243 := S345 _ _ h243
        have hl244 := hl244.mono S345
        have S255 := S255.trans S345
        have h301 := h301.mono S345
        have h306 := S345 _ _ h306
        have hl307 := hl307.mono S345
        have hl348 := hl348.mono S345
        have h347 := R.lst (a := Int) h346 hl348
        obtain ⟨p349, w350, e351, h352, hl353⟩ := R.lst_ h347
        cases e351
        obtain ⟨L355, hL356, hLs357, hLd358⟩ := loopM_L hk
        refine ⟨_, rfl, ⟨_, (SqLF O344.s h352)⟩, ?_⟩
        refine for_list (K := K) (xs := w350) (fun i σ H => ∃ (F_ : Hp) (st : Unit) (t_0 : Option V), σ = [some (V.ref a_script), some (V.int y41), some (V.ref p76), some (V.ref p167), some v104, some (V.ref p159), some (V.int (r85.1.1.length : Int)), some (V.int r179.1), some (V.int r215.1), some v229, some (V.int y245), t63, t64, t_0, none, none, none] ∧ Same F343 F_ ∧ Ow _ F_ [(p76, .lst w220)] H ∧ L355 (List.drop i ([(2 : Int), (3 : Int)])) st) ⟨F343, (), t337, rfl, Same.refl _, O344, hL356⟩ (fun i_ σ_ H_ _ hp_ => ?_) ?_ ?_
        · obtain ⟨_, _, _, _, hS_, hO_, _⟩ := hp_
          exact SqLF hO_.s (hS_ _ _ h352)
        · rintro i359 x360 sg361 H362 hi363 ⟨F367, st365, t366, rfl, S364, O368, hL356⟩
          have f_script := S364.seq f_script
          have h7 := h7.mono S364
          have h15 := h15.mono S364
          have h20 := S364 _ _ h20
          have hl21 := hl21.mono S364
          have h25 := S364 _ _ h25
          have hl26 := hl26.mono S364
          have h34 := h34.mono S364
          have h39 := S364 _ _ h39
          have hl40 := hl40.mono S364
          have S51 := S51.trans S364
          have r94 := r94.mono S364
          have r105 := r105.mono S364
          have h113 := h113.mono S364
          have h120 := h120.mono S364
          have h128 := h128.mono S364
          have h135 := h135.mono S364
          have h143 := h143.mono S364
          have h150 := h150.mono S364
          have h158 := h158.mono S364
          have h166 := h166.mono S364
          have h165 := h165.mono S364
          have h169 := S364 _ _ h169
          have r172 := r172.mono S364
          have r173 := r173.mono S364
          have h177 := S364 _ _ h177
          have hl178 := hl178.mono S364
          have h194 := h194.mono S364
          have h208 := S364 _ _ h208
          have hl209 := hl209.mono S364
          have hl222 := hl222.mono S364
          have r230 := r230.mono S364
          have h238 := h238.mono S364
          have h243 := S364 _ _ h243
          have hl244 := hl244.mono S364
          have S255 := S255.trans S364
          have h301 := h301.mono S364
          have h306 := S364 _ _ h306
          have hl307 := hl307.mono S364
          have h347 := h347.mono S364
          have h352 := S364 _ _ h352
          have hl353 := hl353.mono S364
          obtain ⟨y354, e369, r370⟩ := RL.got hl353 hi363
          rw [drop_at e369] at hL356
          have hk := hLs357 _ _ _ hL356
          obtain rfl := R.int_ r370
          refine ⟨_, rfl, _, rfl, _, rfl, _, rfl, _, rfl, _, _, _, _, _, _, _, _, rfl, O368.pre0, r230, h165, wp_call hk (fun r371 er372 hk F373 H374 g375 => ?_) (fun n hn C H1 hC kp => hn.elim)⟩
          have O376 := O368.call0 g375
          have S_ := g375.f
          have f_script := S_.seq f_script
          have h7 := h7.mono S_
          have h15 := h15.mono S_
          have h20 := S_ _ _ h20
          have hl21 := hl21.mono S_
          have h25 := S_ _ _ h25
          have hl26 := hl26.mono S_
          have h34 := h34.mono S_
          have h39 := S_ _ _ h39
          have hl40 := hl40.mono S_
          have S51 := S51.trans S_
          have r94 := r94.mono S_
          have r105 := r105.mono S_
          have h113 := h113.mono S_
          have h120 := h120.mono S_
          have h128 := h128.mono S_
          have h135 := h135.mono S_
          have h143 := h143.mono S_
          have h150 := h150.mono S_
          have h158 := h158.mono S_
          have h166 := h166.mono S_
          have h165 := h165.mono S_
          have h169 := S_ _ _ h169
          have r172 := r172.mono S_
          have r173 := r173.mono S_
          have h177 := S_ _ _ h177
          have hl178 := hl178.mono S_
          have h194 := h194.mono S_
          have h208 := S_ _ _ h208
          have hl209 := hl209.mono S_
          have hl222 := hl222.mono S_
          have r230 := r230.mono S_
          have h238 := h238.mono S_
          have h243 := S_ _ _ h243
          have hl244 := hl244.mono S_
          have S255 := S255.trans S_
          have h301 := h301.mono S_
          have h306 := S_ _ _ h306
          have hl307 := hl307.mono S_
          have h347 := h347.mono S_
          have h352 := S_ _ _ h352
          have hl353 := hl353.mono S_
          have S364 := S364.trans S_
          refine ⟨_, _, R.str, R.str, _, rfl, ?_⟩
          refine iteD (fun q377 => ?_) (fun q377 => ?_)
          · have hk := wp_if hk q377
            exact hk _ _  O376.g 
          · have hk := wp_el hk q377
            exact ⟨F373, (), some (V.int y354), rfl, S364, O376, hk⟩
        rintro sg378 H379 ⟨F384, st381, t383, rfl, S380, O385, hL382⟩
        rw [drop_end hl353.len] at hL382
        have hk := hLd358 _ hL382
        have f_script := S380.seq f_script
        have h7 := h7.mono S380
        have h15 := h15.mono S380
        have h20 := S380 _ _ h20
        have hl21 := hl21.mono S380
        have h25 := S380 _ _ h25
        have hl26 := hl26.mono S380
        have h34 := h34.mono S380
        have h39 := S380 _ _ h39
        have hl40 := hl40.mono S380
        have S51 := S51.trans S380
        have r94 := r94.mono S380
        have r105 := r105.mono S380
        have h113 := h113.mono S380
        have h120 := h120.mono S380
        have h128 := h128.mono S380
        have h135 := h135.mono S380
        have h143 := h143.mono S380
        have h150 := h150.mono S380
        have h158 := h158.mono S380
        have h166 := h166.mono S380
        have h165 := h165.mono S380
        have h169 := S380 _ _ h169
        have r172 := r172.mono S380
        have r173 := r173.mono S380
        have h177 := S380 _ _ h177
        have hl178 := hl178.mono S380
        have h194 := h194.mono S380
        have h208 := S380 _ _ h208
        have hl209 := hl209.mono S380
        have hl222 := hl222.mono S380
        have r230 := r230.mono S380
        have h238 := h238.mono S380
        have h243 := S380 _ _ h243
        have hl244 := hl244.mono S380
        have S255 := S255.trans S380
        have h301 := h301.mono S380
        have h306 := S380 _ _ h306
        have hl307 := hl307.mono S380
        have h347 := h347.mono S380
        have h352 := S380 _ _ h352
        have hl353 := hl353.mono S380
        exact ⟨F384, (), some (V.int y245), t383, rfl, S255, O385, hk⟩
      rintro sg387 H388 ⟨F394, st390, t392, t393, rfl, S389, O395, hL391⟩
      rw [drop_end hl244.len] at hL391
      have hk := hLd249 _ hL391
      have f_script := S389.seq f_script
      have h7 := h7.mono S389
      have h15 := h15.mono S389
      have h20 := S389 _ _ h20
      have hl21 := hl21.mono S389
      have h25 := S389 _ _ h25
      have hl26 := hl26.mono S389
      have h34 := h34.mono S389
      have h39 := S389 _ _ h39
      have hl40 := hl40.mono S389
      have S51 := S51.trans S389
      have r94 := r94.mono S389
      have r105 := r105.mono S389
      have h113 := h113.mono S389
      have h120 := h120.mono S389
      have h128 := h128.mono S389
      have h135 := h135.mono S389
      have h143 := h143.mono S389
      have h150 := h150.mono S389
      have h158 := h158.mono S389
      have h166 := h166.mono S389
      have h165 := h165.mono S389
      have h169 := S389 _ _ h169
      have r172 := r172.mono S389
      have r173 := r173.mono S389
      have h177 := S389 _ _ h177
      have hl178 := hl178.mono S389
      have h194 := h194.mono S389
      have h208 := S389 _ _ h208
      have hl209 := hl209.mono S389
      have hl222 := hl222.mono S389
      have r230 := r230.mono S389
      have h238 := h238.mono S389
      have h243 := S389 _ _ h243
      have hl244 := hl244.mono S389
      obtain ⟨p397, w398, e399, h400, hl401⟩ := R.lst_ r173
      cases e399
      obtain ⟨c407, L403, hL404, hLs405, hLd406⟩ := compS_L hk
      refine ⟨_, rfl, _, _, _, _, rfl, rfl, (SqTF O395.s h169), rfl, _, rfl, ⟨_, (SqLF O395.s h400)⟩, fun p408 hp409 => ?_⟩
      have z455 := O395.was hp409
      refine lc_list (K := K) (xs := w398) (fun i H => ∃ (F_ : Hp) (st : Unit) (acc : List (List Int)) (wa : List V), Same F394 F_ ∧ Ow _ F_ [(p408, .lst wa), (p76, .lst w220)] H ∧ RL F_ wa acc ∧ wa.length ≤ i ∧ L403 (List.drop i r85.1.2) acc st) ⟨F394, (), [], [], Same.refl _, O395.new hp409, RL.nil, Nat.zero_le _, hL404⟩ (fun i_ H_ _ hp_ => ?_) ?_ ?_
      · obtain ⟨_, _, _, _, hS_, hO_, _⟩ := hp_
        exact SqLF hO_.s (hS_ _ _ h400)
      · rintro i410 x411 H412 hi413 ⟨F418, st419, acc415, wa416, S420, O422, hl421, la417, hL404⟩
        have f_script := S420.seq f_script
        have h7 := h7.mono S420
        have h15 := h15.mono S420
        have h20 := S420 _ _ h20
        have hl21 := hl21.mono S420
        have h25 := S420 _ _ h25
        have hl26 := hl26.mono S420
        have h34 := h34.mono S420
        have h39 := S420 _ _ h39
        have hl40 := hl40.mono S420
        have S51 := S51.trans S420
        have r94 := r94.mono S420
        have r105 := r105.mono S420
        have h113 := h113.mono S420
        have h120 := h120.mono S420
        have h128 := h128.mono S420
        have h135 := h135.mono S420
        have h143 := h143.mono S420
        have h150 := h150.mono S420
        have h158 := h158.mono S420
        have h166 := h166.mono S420
        have h165 := h165.mono S420
        have h169 := S420 _ _ h169
        have r172 := r172.mono S420
        have r173 := r173.mono S420
        have h177 := S420 _ _ h177
        have hl178 := hl178.mono S420
        have h194 := h194.mono S420
        have h208 := S420 _ _ h208
        have hl209 := hl209.mono S420
        have hl222 := hl222.mono S420
        have r230 := r230.mono S420
        have h238 := h238.mono S420
        have h243 := S420 _ _ h243
        have hl244 := hl244.mono S420
        have h400 := S420 _ _ h400
        have hl401 := hl401.mono S420
        obtain ⟨y402, e423, r424⟩ := RL.got hl401 hi413
        rw [drop_at e423] at hL404
        have hk := hLs405 _ _ _ _ hL404
        obtain ⟨p425, v428, v429, v430, e426, h427, r431, r432, r433⟩ := R.t3_ r424
        cases e426
        obtain rfl := R.int_ r431
        obtain rfl := R.int_ r432
        obtain rfl := R.int_ r433
        refine ⟨_, _, rfl, (SqTF O422.s h427), rfl, _, _, rfl, _, _, rfl, _, _, rfl, rfl, rfl, ?_⟩
        refine ⟨_, rfl, _, rfl, (by show 2 ≤ sizeLine; decide), fun p434 hp435 => ?_⟩
        have hl441 : RL (a := Int) F418 ([V.int y402.a, V.int y402.b]) ([y402.a, y402.b]) := RL.cons R.int (RL.cons R.int RL.nil)
        obtain ⟨F436, O437, S438, h439⟩ := O422.putE hp435 (.lst ([V.int y402.a, V.int y402.b]))
        have f_script := S438.seq f_script
        have h7 := h7.mono S438
        have h15 := h15.mono S438
        have h20 := S438 _ _ h20
        have hl21 := hl21.mono S438
        have h25 := S438 _ _ h25
        have hl26 := hl26.mono S438
        have h34 := h34.mono S438
        have h39 := S438 _ _ h39
        have hl40 := hl40.mono S438
        have S51 := S51.trans S438
        have r94 := r94.mono S438
        have r105 := r105.mono S438
        have h113 := h113.mono S438
        have h120 := h120.mono S438
        have h128 := h128.mono S438
        have h135 := h135.mono S438
        have h143 := h143.mono S438
        have h150 := h150.mono S438
        have h158 := h158.mono S438
        have h166 := h166.mono S438
        have h165 := h165.mono S438
        have h169 := S438 _ _ h169
        have r172 := r172.mono S438
        have r173 := r173.mono S438
        have h177 := S438 _ _ h177
        have hl178 := hl178.mono S438
        have h194 := h194.mono S438
        have h208 := S438 _ _ h208
        have hl209 := hl209.mono S438
        have hl222 := hl222.mono S438
        have r230 := r230.mono S438
        have h238 := h238.mono S438
        have h243 := S438 _ _ h243
        have hl244 := hl244.mono S438
        have h400 := S438 _ _ h400
        have hl401 := hl401.mono S438
        have S420 := S420.trans S438
        have hl421 := hl421.mono S438
        have r424 := r424.mono S438
        have h427 := S438 _ _ h427
        have hl441 := hl441.mono S438
        have h440 := R.lst (a := Int) h439 hl441
        obtain ⟨p442, w443, e444, h445, hl446⟩ := R.lst_ h440
        cases e444
        refine ⟨_, _, _, rfl, (O437.s _ _ h445), (RL.mono hl446 O437.s), fun p447 hp448 => ?_⟩
        have hl454 : RL (a := Int) F436 (sortV w443 ([y402.a, y402.b])) (sortT ([y402.a, y402.b])) := (RL.sorted hl446)
        obtain ⟨F449, O450, S451, h452⟩ := O437.putE hp448 (.lst (sortV w443 ([y402.a, y402.b])))
        have f_script := S451.seq f_script
        have h7 := h7.mono S451
        have h15 := h15.mono S451
        have h20 := S451 _ _ h20
        have hl21 := hl21.mono S451
        have h25 := S451 _ _ h25
        have hl26 := hl26.mono S451
        have h34 := h34.mono S451
        have h39 := S451 _ _ h39
        have hl40 := hl40.mono S451
        have S51 := S51.trans S451
        have r94 := r94.mono S451
        have r105 := r105.mono S451
        have h113 := h113.mono S451
        have h120 := h120.mono S451
        have h128 := h128.mono S451
        have h135 := h135.mono S451
        have h143 := h143.mono S451
        have h150 := h150.mono S451
        have h158 := h158.mono S451
        have h166 := h166.mono S451
        have h165 := h165.mono S451
        have h169 := S451 _ _ h169
        have r172 := r172.mono S451
        have r173 := r173.mono S451
        have h177 := S451 _ _ h177
        have hl178 := hl178.mono S451
        have h194 := h194.mono S451
        have h208 := S451 _ _ h208
        have hl209 := hl209.mono S451
        have hl222 := hl222.mono S451
        have r230 := r230.mono S451
        have h238 := h238.mono S451
        have h243 := S451 _ _ h243
        have hl244 := hl244.mono S451
        have h400 := S451 _ _ h400
        have hl401 := hl401.mono S451
        have S420 := S420.trans S451
        have hl421 := hl421.mono S451
        have r424 := r424.mono S451
        have h427 := S451 _ _ h427
        have h440 := h440.mono S451
        have h445 := S451 _ _ h445
        have hl446 := hl446.mono S451
        have hl454 := hl454.mono S451
        have h453 := R.lst (a := Int) h452 hl454
        refine ⟨_, (O450.at 0 rfl), (comp_len la417 hi413 hl401.len c407), ?_⟩
        exact ⟨F449, (), acc415 ++ [(sortT ([y402.a, y402.b]))], wa416 ++ [V.ref p447], S420, O450.set 0 (.lst (wa416 ++ [V.ref p447])) rfl, RL.snoc hl421 h453, by rw [List.length_append]; exact Nat.succ_le_succ la417, hk⟩
      rintro H456 ⟨F457, st458, acc459, wa460, S461, O462, hl463, la464, hL465⟩
      rw [drop_end hl401.len] at hL465
      have hk := hLd406 _ _ hL465
      have f_script := S461.seq f_script
      have h7 := h7.mono S461
      have h15 := h15.mono S461
      have h20 := S461 _ _ h20
      have hl21 := hl21.mono S461
      have h25 := S461 _ _ h25
      have hl26 := hl26.mono S461
      have h34 := h34.mono S461
      have h39 := S461 _ _ h39
      have hl40 := hl40.mono S461
      have S51 := S51.trans S461
      have r94 := r94.mono S461
      have r105 := r105.mono S461
      have h113 := h113.mono S461
      have h120 := h120.mono S461
      have h128 := h128.mono S461
      have h135 := h135.mono S461
      have h143 := h143.mono S461
      have h150 := h150.mono S461
      have h158 := h158.mono S461
      have h166 := h166.mono S461
      have h165 := h165.mono S461
      have h169 := S461 _ _ h169
      have r172 := r172.mono S461
      have r173 := r173.mono S461
      have h177 := S461 _ _ h177
      have hl178 := hl178.mono S461
      have h194 := h194.mono S461
      have h208 := S461 _ _ h208
      have hl209 := hl209.mono S461
      have hl222 := hl222.mono S461
      have r230 := r230.mono S461
      have h238 := h238.mono S461
      have h243 := S461 _ _ h243
      have hl244 := hl244.mono S461
      have h400 := S461 _ _ h400
      have hl401 := hl401.mono S461
      obtain ⟨F467, O468, S469, h470⟩ := O462.frzE 0 rfl z455
      have f_script := S469.seq f_script
      have h7 := h7.mono S469
      have h15 := h15.mono S469
      have h20 := S469 _ _ h20
      have hl21 := hl21.mono S469
      have h25 := S469 _ _ h25
      have hl26 := hl26.mono S469
      have h34 := h34.mono S469
      have h39 := S469 _ _ h39
      have hl40 := hl40.mono S469
      have S51 := S51.trans S469
      have r94 := r94.mono S469
      have r105 := r105.mono S469
      have h113 := h113.mono S469
      have h120 := h120.mono S469
      have h128 := h128.mono S469
      have h135 := h135.mono S469
      have h143 := h143.mono S469
      have h150 := h150.mono S469
      have h158 := h158.mono S469
      have h166 := h166.mono S469
      have h165 := h165.mono S469
      have h169 := S469 _ _ h169
      have r172 := r172.mono S469
      have r173 := r173.mono S469
      have h177 := S469 _ _ h177
      have hl178 := hl178.mono S469
      have h194 := h194.mono S469
      have h208 := S469 _ _ h208
      have hl209 := hl209.mono S469
      have hl222 := hl222.mono S469
      have r230 := r230.mono S469
      have h238 := h238.mono S469
      have h243 := S469 _ _ h243
      have hl244 := hl244.mono S469
      have h400 := S469 _ _ h400
      have hl401 := hl401.mono S469
      have hl463 := hl463.mono S469
      have h471 := R.lst (a := (List Int)) h470 hl463
      obtain ⟨c473, hk⟩ := wp_chk hk
      obtain ⟨L474, hL475, hLs476, hLd477⟩ := loopM_L hk
      refine ⟨_, rfl, _, rfl, c473.lo, c473.hi, ?_⟩
      refine for_range (lo := 0) (n := ((r85.1.1.length : Int)).toNat) (fun i σ H => ∃ (F_ : Hp) (st : Unit) (t_0 : Option V), σ = [some (V.ref a_script), some (V.int y41), some (V.ref p76), some (V.ref p167), some v104, some (V.ref p159), some (V.int (r85.1.1.length : Int)), some (V.int r179.1), some (V.int r215.1), some v229, t392, some (V.ref p408), t_0, t393, none, none, none] ∧ Same F467 F_ ∧ Ow _ F_ [(p76, .lst w220)] H ∧ L474 (List.drop i (rangeL 0 (r85.1.1.length : Int))) st) ⟨F467, (), t64, rfl, Same.refl _, O468, hL475⟩ ?_ ?_
      · rintro i478 sg480 H481 hi482 ⟨F486, st484, t485, rfl, S483, O487, hL475⟩
        have f_script := S483.seq f_script
        have h7 := h7.mono S483
        have h15 := h15.mono S483
        have h20 := S483 _ _ h20
        have hl21 := hl21.mono S483
        have h25 := S483 _ _ h25
        have hl26 := hl26.mono S483
        have h34 := h34.mono S483
        have h39 := S483 _ _ h39
        have hl40 := hl40.mono S483
        have S51 := S51.trans S483
        have r94 := r94.mono S483
        have r105 := r105.mono S483
        have h113 := h113.mono S483
        have h120 := h120.mono S483
        have h128 := h128.mono S483
        have h135 := h135.mono S483
        have h143 := h143.mono S483
        have h150 := h150.mono S483
        have h158 := h158.mono S483
        have h166 := h166.mono S483
        have h165 := h165.mono S483
        have h169 := S483 _ _ h169
        have r172 := r172.mono S483
        have r173 := r173.mono S483
        have h177 := S483 _ _ h177
        have hl178 := hl178.mono S483
        have h194 := h194.mono S483
        have h208 := S483 _ _ h208
        have hl209 := hl209.mono S483
        have hl222 := hl222.mono S483
        have r230 := r230.mono S483
        have h238 := h238.mono S483
        have h243 := S483 _ _ h243
        have hl244 := hl244.mono S483
        have h400 := S483 _ _ h400
        have hl401 := hl401.mono S483
        have h471 := h471.mono S483
        rw [rangeL_get0 hi482] at hL475
        have hk := hLs476 _ _ _ hL475
        obtain ⟨y472, he_⟩ : ∃ z_, z_ = 0 + (i478 : Int) := ⟨_, rfl⟩
        try rw [← he_] at hk
        rw [← he_]
        refine ⟨_, rfl, _, rfl, (by show 2 ≤ sizeLine; decide), fun p488 hp489 => ?_⟩
        have hl495 : RL (a := Int) F486 ([V.int r179.1, V.int y472]) ([r179.1, y472]) := RL.cons R.int (RL.cons R.int RL.nil)
        obtain ⟨F490, O491, S492, h493⟩ := O487.putE hp489 (.lst ([V.int r179.1, V.int y472]))
        have f_script := S492.seq f_script
        have h7 := h7.mono S492
        have h15 := h15.mono S492
        have h20 := S492 _ _ h20
        have hl21 := hl21.mono S492
        have h25 := S492 _ _ h25
        have hl26 := hl26.mono S492
        have h34 := h34.mono S492
        have h39 := S492 _ _ h39
        have hl40 := hl40.mono S492
        have S51 := S51.trans S492
        have r94 := r94.mono S492
        have r105 := r105.mono S492
        have h113 := h113.mono S492
        have h120 := h120.mono S492
        have h128 := h128.mono S492
        have h135 := h135.mono S492
        have h143 := h143.mono S492
        have h150 := h150.mono S492
        have h158 := h158.mono S492
        have h166 := h166.mono S492
        have h165 := h165.mono S492
        have h169 := S492 _ _ h169
        have r172 := r172.mono S492
        have r173 := r173.mono S492
        have h177 := S492 _ _ h177
        have hl178 := hl178.mono S492
        have h194 := h194.mono S492
        have h208 := S492 _ _ h208
        have hl209 := hl209.mono S492
        have hl222 := hl222.mono S492
        have r230 := r230.mono S492
        have h238 := h238.mono S492
        have h243 := S492 _ _ h243
        have hl244 := hl244.mono S492
        have h400 := S492 _ _ h400
        have hl401 := hl401.mono S492
        have h471 := h471.mono S492
        have S483 := S483.trans S492
        have hl495 := hl495.mono S492
        have h494 := R.lst (a := Int) h493 hl495
        obtain ⟨p496, w497, e498, h499, hl500⟩ := R.lst_ h494
        cases e498
        refine ⟨_, _, _, rfl, (O491.s _ _ h499), (RL.mono hl500 O491.s), fun p501 hp502 => ?_⟩
        have hl508 : RL (a := Int) F490 (sortV w497 ([r179.1, y472])) (sortT ([r179.1, y472])) := (RL.sorted hl500)
        obtain ⟨F503, O504, S505, h506⟩ := O491.putE hp502 (.lst (sortV w497 ([r179.1, y472])))
        have f_script := S505.seq f_script
        have h7 := h7.mono S505
        have h15 := h15.mono S505
        have h20 := S505 _ _ h20
        have hl21 := hl21.mono S505
        have h25 := S505 _ _ h25
        have hl26 := hl26.mono S505
        have h34 := h34.mono S505
        have h39 := S505 _ _ h39
        have hl40 := hl40.mono S505
        have S51 := S51.trans S505
        have r94 := r94.mono S505
        have r105 := r105.mono S505
        have h113 := h113.mono S505
        have h120 := h120.mono S505
        have h128 := h128.mono S505
        have h135 := h135.mono S505
        have h143 := h143.mono S505
        have h150 := h150.mono S505
        have h158 := h158.mono S505
        have h166 := h166.mono S505
        have h165 := h165.mono S505
        have h169 := S505 _ _ h169
        have r172 := r172.mono S505
        have r173 := r173.mono S505
        have h177 := S505 _ _ h177
        have hl178 := hl178.mono S505
        have h194 := h194.mono S505
        have h208 := S505 _ _ h208
        have hl209 := hl209.mono S505
        have hl222 := hl222.mono S505
        have r230 := r230.mono S505
        have h238 := h238.mono S505
        have h243 := S505 _ _ h243
        have hl244 := hl244.mono S505
        have h400 := S505 _ _ h400
        have hl401 := hl401.mono S505
        have h471 := h471.mono S505
        have S483 := S483.trans S505
        have h494 := h494.mono S505
        have h499 := S505 _ _ h499
        have hl500 := hl500.mono S505
        have hl508 := hl508.mono S505
        have h507 := R.lst (a := Int) h506 hl508
        obtain ⟨p509, w510, e511, h512, hl513⟩ := R.lst_ h471
        cases e511
        refine ⟨_, rfl, _, _, _, _, (R.mono h507 O504.s), rfl, (.inl (O504.s _ _ h512)), (RL.mono (hl513) O504.s), _, rfl, ?_⟩
        refine iteDx (fun q514 => ?_) (fun q514 => ?_)
        · have hk := wp_if hk q514
          refine ⟨_, rfl, _, rfl, _, rfl, _, rfl, _, _, _, _, _, _, _, _, rfl, O504.pre0, r230, r105, wp_call hk (fun r515 er516 hk F517 H518 g519 => ?_) (fun n hn C H1 hC kp => hn.elim)⟩
          have O520 := O504.call0 g519
          have S_ := g519.f
          have f_script := S_.seq f_script
          have h7 := h7.mono S_
          have h15 := h15.mono S_
          have h20 := S_ _ _ h20
          have hl21 := hl21.mono S_
          have h25 := S_ _ _ h25
          have hl26 := hl26.mono S_
          have h34 := h34.mono S_
          have h39 := S_ _ _ h39
          have hl40 := hl40.mono S_
          have S51 := S51.trans S_
          have r94 := r94.mono S_
          have r105 := r105.mono S_
          have h113 := h113.mono S_
          have h120 := h120.mono S_
          have h128 := h128.mono S_
          have h135 := h135.mono S_
          have h143 := h143.mono S_
          have h150 := h150.mono S_
          have h158 := h158.mono S_
          have h166 := h166.mono S_
          have h165 := h165.mono S_
          have h169 := S_ _ _ h169
          have r172 := r172.mono S_
          have r173 := r173.mono S_
          have h177 := S_ _ _ h177
          have hl178 := hl178.mono S_
          have h194 := h194.mono S_
          have h208 := S_ _ _ h208
          have hl209 := hl209.mono S_
          have hl222 := hl222.mono S_
          have r230 := r230.mono S_
          have h238 := h238.mono S_
          have h243 := S_ _ _ h243
          have hl244 := hl244.mono S_
          have h400 := S_ _ _ h400
          have hl401 := hl401.mono S_
          have h471 := h471.mono S_
          have S483 := S483.trans S_
          have h494 := h494.mono S_
          have h499 := S_ _ _ h499
          have hl500 := hl500.mono S_
          have h507 := h507.mono S_
          have h512 := S_ _ _ h512
          have hl513 := hl513.mono S_
          refine ⟨_, _, R.str, R.str, _, rfl, ?_⟩
          refine iteD (fun q521 => ?_) (fun q521 => ?_)
          · have hk := wp_if hk q521
            exact hk _ _  O520.g 
          · have hk := wp_el hk q521
            exact ⟨F517, (), some (V.int y472), rfl, S483, O520, hk⟩
        · have hk := wp_el hk q514
          refine iteF ?_
          exact ⟨F503, (), some (V.int y472), rfl, S483, O504, hk⟩
      rintro sg522 H523 ⟨F528, st525, t527, rfl, S524, O529, hL526⟩
      rw [rangeL_end0] at hL526
      have hk := hLd477 _ hL526
      have f_script := S524.seq f_script
      have h7 := h7.mono S524
      have h15 := h15.mono S524
      have h20 := S524 _ _ h20
      have hl21 := hl21.mono S524
      have h25 := S524 _ _ h25
      have hl26 := hl26.mono S524
      have h34 := h34.mono S524
      have h39 := S524 _ _ h39
      have hl40 := hl40.mono S524
      have S51 := S51.trans S524
      have r94 := r94.mono S524
      have r105 := r105.mono S524
      have h113 := h113.mono S524
      have h120 := h120.mono S524
      have h128 := h128.mono S524
      have h135 := h135.mono S524
      have h143 := h143.mono S524
      have h150 := h150.mono S524
      have h158 := h158.mono S524
      have h166 := h166.mono S524
      have h165 := h165.mono S524
      have h169 := S524 _ _ h169
      have r172 := r172.mono S524
      have r173 := r173.mono S524
      have h177 := S524 _ _ h177
      have hl178 := hl178.mono S524
      have h194 := h194.mono S524
      have h208 := S524 _ _ h208
      have hl209 := hl209.mono S524
      have hl222 := hl222.mono S524
      have r230 := r230.mono S524
      have h238 := h238.mono S524
      have h243 := S524 _ _ h243
      have hl244 := hl244.mono S524
      have h400 := S524 _ _ h400
      have hl401 := hl401.mono S524
      have h471 := h471.mono S524
      refine ⟨_, rfl, _, rfl, _, _, (R.mono r230 O529.s), (R.mono r94 O529.s), _, rfl, ?_⟩
      refine iteD (fun q531 => ?_) (fun q531 => ?_)
      · have hk := wp_if hk q531
        exact hk _ _  O529.g 
      · have hk := wp_el hk q531
        have O532 := O529.drop 0
        exact ⟨F528, (), some (V.int y41), some (V.ref p76), some (V.ref p167), some v104, some (V.ref p159), some (V.int (r85.1.1.length : Int)), some (V.int r179.1), some (V.int r215.1), some v229, t392, some (V.ref p408), t527, t393, rfl, S51, O532, hk⟩
    rintro sg533 H534 ⟨F551, st536, t538, t539, t540, t541, t542, t543, t544, t545, t546, t547, t548, t549, t550, rfl, S535, O552, hL537⟩
    rw [drop_end hl40.len] at hL537
    have hk := hLd45 _ hL537
    have f_script := S535.seq f_script
    have h7 := h7.mono S535
    have h15 := h15.mono S535
    have h20 := S535 _ _ h20
    have hl21 := hl21.mono S535
    have h25 := S535 _ _ h25
    have hl26 := hl26.mono S535
    have h34 := h34.mono S535
    have h39 := S535 _ _ h39
    have hl40 := hl40.mono S535
    exact hk _ _  O552.g 
end
set_option maxHeartbeats 2000000
def m_law_value : Nat → Sm → (List (Str × IL)) → M (Int)
  | 0, _, _ => bad
  | k_ + 1, x_told, x_known =>
    if (Sm.word x_told) = ("number" : Str) then (
    opt (Sm.int? x_told) >>= fun y6 =>
    .ok y6)
    else (
    if (Sm.word x_told) ∈ ([(("own" : Str), ("tie" : Str)).1, (("own" : Str), ("tie" : Str)).2]) then (
    opt (dGet x_known (Sm.word x_told)) >>= fun y40 =>
    opt (IL.i? y40) >>= fun y45 =>
    .ok y45)
    else (
    if (Sm.word x_told) ∈ ([(("so" : Str), ("more" : Str)).1, (("so" : Str), ("more" : Str)).2]) then (
    opt (dGet x_known (Sm.word x_told)) >>= fun y76 =>
    opt (Sm.int? x_told) >>= fun y81 =>
    opt (IL.l? y76) >>= fun y87 =>
    opt (atI y87 y81) >>= fun y95 =>
    .ok y95)
    else (
    opt (Sm.two? x_told) >>= fun y100 =>
    compS (fun (y117 : Sm) (st134 : Unit) =>
    m_law_value k_ y117 x_known >>= fun r140 =>
    .ok (some r140, ())) ([y100.1, y100.2]) () >>= fun q157 =>
    two2 q157.1 >>= fun (x168, y169) =>
    if (Sm.word x_told) = ("times" : Str) then (
    chk (CMulW x168 y169) >>= fun _ =>
    .ok (x168 * y169))
    else (
    if (Sm.word x_told) ∈ ([(("plus" : Str), ("less" : Str)).1, (("plus" : Str), ("less" : Str)).2]) then (
    opt (atI ([(1 : Int), (-(1 : Int))]) (if (decide ((Sm.word x_told) = ("less" : Str))) = true then (1 : Int) else 0)) >>= fun y225 =>
    chk (CMulW y225 y169) >>= fun _ =>
    .ok (x168 + (y225 * y169)))
    else (
    opt (atI (sortT ([x168, y169])) (if (decide ((Sm.word x_told) = ("most" : Str))) = true then (1 : Int) else 0)) >>= fun y261 =>
    .ok y261)))))

/-! ### the law's own helpers -/
abbrev D2 := {e : Int × Int // 0 ≤ e.2 ∧ e.2 < 2147483648}
def dk (d : D2) : List Int := [d.1.1, d.1.2]
theorem pow10 (n : Nat) : (10 : Int) ^ n = ((10 ^ n : Nat) : Int) := by rw [Int.natCast_pow]; rfl
theorem stir_ok (c k : Int) (h : 1 ≤ k ∧ k ≤ 3) : ∃ s, m_law_stir c k = .ok s ∧ 0 ≤ s ∧ s < 10 ^ 62 := by
  unfold m_law_stir
  have e40 : (10 : Int) ^ Int.toNat (40 : Int) = 10000000000000000000000000000000000000000 := by decide
  have e60 : (3 : Int) ^ Int.toNat (60 : Int) = 42391158275216203514294433201 := by decide
  have e61 : (10 : Int) ^ Int.toNat (61 : Int) = 10000000000000000000000000000000000000000000000000000000000000 := by decide
  rw [e40, e60, e61]
  obtain ⟨r, hr⟩ : ∃ r, r = c % 10000000000000000000000000000000000000000 := ⟨_, rfl⟩
  have r0 : 0 ≤ r := by omega
  have r1 : r < 10000000000000000000000000000000000000000 := by omega
  rw [← hr]
  rw [chk_b (by decide)]
  rw [chk_b (cmulW (Nat.lt_of_lt_of_le (m := 10 ^ 40) (by omega) (by decide +kernel)) (by decide +kernel))]
  rw [chk_b (cmulW (by decide +kernel) (Nat.lt_of_lt_of_le (m := 5) (by omega) (by decide +kernel)))]
  obtain ⟨q, hq⟩ : ∃ q, q = 42391158275216203514294433201 * (k + 1) := ⟨_, rfl⟩
  have q0 : 0 ≤ q ∧ q ≤ 42391158275216203514294433201 * 4 := by omega
  rw [← hq]
  rw [chk_b (cmulW (Nat.lt_of_lt_of_le (m := 10 ^ 40) (by omega) (by decide +kernel)) (Nat.lt_of_lt_of_le (m := 5) (by omega) (by decide +kernel)))]
  have q2 : 0 ≤ q * (k + 1) ∧ q * (k + 1) ≤ 42391158275216203514294433201 * 16 := by
    have : k = 1 ∨ k = 2 ∨ k = 3 := by omega
    rcases this with rfl | rfl | rfl <;> omega
  rw [ret_b]
  obtain ⟨n, hn⟩ : ∃ n, n = r * 48271 + q * (k + 1) + k := ⟨_, rfl⟩
  rw [← hn]
  have n0 : 0 ≤ n := by omega
  have n1 : n.natAbs < 2 ^ 160 := Nat.lt_of_lt_of_le (m := 10 ^ 46) (by omega) (by decide)
  rw [chk_b (cmulW (Nat.lt_of_lt_of_le n1 (Nat.pow_le_pow_right (by decide) (by decide))) (Nat.lt_of_lt_of_le n1 (Nat.pow_le_pow_right (by decide) (by decide))))]
  rw [chk_b (cmulW (by decide +kernel) (Nat.lt_of_lt_of_le n1 (Nat.pow_le_pow_right (by decide) (by decide))))]
  rw [ret_b]
  have m1 : (n * n).natAbs < 2 ^ (160 + 160) := wide_lt n1 n1
  have m2 : ((69621 : Int) * n).natAbs < 2 ^ (17 + 160) := wide_lt (by decide) n1
  have m3 : (n * n + 69621 * n).natAbs < 2 ^ 321 := by
    have a1 := Int.natAbs_add_le (n * n) (69621 * n)
    have a2 : (2 : Nat) ^ (17 + 160) ≤ 2 ^ 320 := Nat.pow_le_pow_right (by decide) (by decide)
    have a3 : (2 : Nat) ^ 321 = 2 ^ 320 + 2 ^ 320 := by decide
    omega
  rw [chk_b (cmulW (Nat.lt_of_lt_of_le m3 (Nat.pow_le_pow_right (by decide) (by decide))) (Nat.lt_of_lt_of_le m3 (Nat.pow_le_pow_right (by decide) (by decide))))]
  rw [chk_b (by decide), chk_b (cdivW (by decide) (by decide))]
  refine ⟨_, rfl, ?_⟩
  have : (10 : Int) ^ 62 = 100000000000000000000000000000000000000000000000000000000000000 := by decide
  rw [this]
  omega
theorem take_big (d : D2) (m : Int) (h : 0 < m) (h2 : m ≤ 10 ^ 40) : ∃ x d', m_law_take (dk d) m = .ok (x, dk d') ∧ 0 ≤ x ∧ x < m := by
  obtain ⟨⟨a, e⟩, e0, e1⟩ := d
  have e0 : 0 ≤ e := e0
  have e1 : e < 2147483648 := e1
  show ∃ x d', m_law_take [a, e] m = .ok (x, dk d') ∧ 0 ≤ x ∧ x < m
  unfold m_law_take
  rw [opt_b (show L2.atI [a, e] (0 : Int) = some a from rfl)]
  by_cases z : a = 0
  · rw [if_pos z]
    have f0 : 0 ≤ (e * 48271 + e / 7) % 2147483647 := Int.emod_nonneg _ (by decide)
    have f1 : (e * 48271 + e / 7) % 2147483647 < 2147483647 := Int.emod_lt_of_pos _ (by decide)
    obtain ⟨f, hf⟩ : ∃ f, f = (e * 48271 + e / 7) % 2147483647 := ⟨_, rfl⟩
    refine ⟨(f * 69621 % 2147483563 / 8) % m, ⟨(a, f), by show 0 ≤ f; omega, by show f < 2147483648; omega⟩, ?_, Int.emod_nonneg _ (by omega), Int.emod_lt_of_pos _ h⟩
    have g0 : 0 ≤ f * 69621 % 2147483563 := Int.emod_nonneg _ (by decide)
    have g1 : f * 69621 % 2147483563 < 2147483563 := Int.emod_lt_of_pos _ (by decide)
    rw [opt_b (show L2.atI [a, e] (1 : Int) = some e from rfl)]
    rw [chk_b (cmulW (Nat.lt_of_lt_of_le (m := 10 ^ 40) (by omega) (by decide +kernel)) (by decide +kernel))]
    rw [opt_b (show L2.atI [a, e] (1 : Int) = some e from rfl), chk_b (cdivW (by decide) (by decide)), chk_b (by decide)]
    rw [← hf]
    rw [bind_ok (show setI [a, e] (1 : Int) f = .ok [a, f] from rfl)]
    rw [opt_b (show L2.atI [a, f] (1 : Int) = some f from rfl)]
    rw [chk_b (cmulW (Nat.lt_of_lt_of_le (m := 10 ^ 40) (by omega) (by decide +kernel)) (by decide +kernel)), chk_b (by decide)]
    rw [chk_b (cdivW (by decide) (by decide)), chk_b h]
    rfl
  · rw [if_neg z]
    refine ⟨a % m, ⟨(a / m, e), e0, e1⟩, ?_, Int.emod_nonneg _ (by omega), Int.emod_lt_of_pos _ h⟩
    rw [opt_b (show L2.atI [a, e] (0 : Int) = some a from rfl), chk_b h, opt_b (show L2.atI [a, e] (0 : Int) = some a from rfl), chk_b (cdivW h h2)]
    rw [bind_ok (show setI [a, e] (0 : Int) (a / m) = .ok [a / m, e] from rfl)]
    rfl
theorem deck_ok (c : Int) : ∃ d, m_law_deck c = .ok (dk d) := by
  unfold m_law_deck
  have e60 : (10 : Int) ^ Int.toNat (60 : Int) = 10 ^ 60 := rfl
  by_cases h : (10 : Int) ^ Int.toNat (18 : Int) ≤ c
  · rw [if_pos h, chk_b (by decide)]
    exact ⟨⟨(c - (10 : Int) ^ Int.toNat (18 : Int), (c - (10 : Int) ^ Int.toNat (18 : Int)) % 2147483629), Int.emod_nonneg _ (by decide), Int.lt_trans (Int.emod_lt_of_pos _ (by decide)) (by decide)⟩, rfl⟩
  · rw [if_neg h]
    obtain ⟨s1, e1, a1, b1⟩ := stir_ok c 1 (by decide)
    obtain ⟨s2, e2, a2, b2⟩ := stir_ok c 2 (by decide)
    obtain ⟨s3, e3, _, _⟩ := stir_ok c 3 (by decide)
    have k62 : ((10 : Int) ^ 62).natAbs < 2 ^ 210 := by decide
    have w1 : s1.natAbs < 2 ^ 210 := wide_le a1 (Int.le_of_lt b1) k62
    have w2 : s2.natAbs < 2 ^ 210 := wide_le a2 (Int.le_of_lt b2) k62
    have k60 : ((10 : Int) ^ 60).natAbs < 2 ^ 200 := by decide
    rw [bind_ok e1, e60, chk_b (cmulW (Nat.lt_of_lt_of_le w1 (Nat.pow_le_pow_right (by decide) (by decide))) (Nat.lt_of_lt_of_le k60 (Nat.pow_le_pow_right (by decide) (by decide)))), bind_ok e2]
    have m1 : (s1 * 10 ^ 60).natAbs < 2 ^ (210 + 200) := wide_lt w1 k60
    have m2 : (s1 * 10 ^ 60 + s2).natAbs < 2 ^ 411 := by
      have x1 := Int.natAbs_add_le (s1 * 10 ^ 60) s2
      have x2 : (2 : Nat) ^ 210 ≤ 2 ^ 410 := Nat.pow_le_pow_right (by decide) (by decide)
      have x3 : (2 : Nat) ^ 411 = 2 ^ 410 + 2 ^ 410 := by decide
      omega
    rw [chk_b (cmulW (Nat.lt_of_lt_of_le m2 (Nat.pow_le_pow_right (by decide) (by decide))) (Nat.lt_of_lt_of_le k60 (Nat.pow_le_pow_right (by decide) (by decide)))), bind_ok e3]
    have v0 : 0 ≤ c % 2147483628 + 1 := by omega
    have v1 : c % 2147483628 + 1 < 2147483648 := by omega
    first
      | exact ⟨⟨(_, c % 2147483628 + 1), v0, v1⟩, rfl⟩
      | (rw [chk_b (by decide)]; exact ⟨⟨(_, c % 2147483628 + 1), v0, v1⟩, rfl⟩)
/-- how far numbers go -/
def farB : Int := 100000000000000000000000000000
theorem number_ok (d : D2) (far : Int) (h : 0 ≤ far) (h2 : far ≤ farB) : ∃ x d', m_law_number (dk d) far = .ok (x, dk d') ∧ -far ≤ x ∧ x ≤ far := by
  unfold m_law_number
  have hb : far ≤ 100000000000000000000000000000 := h2
  have k : (10 : Int) ^ 40 = 10000000000000000000000000000000000000000 := by decide
  rw [chk_b (cmulW (by decide +kernel) (Nat.lt_of_lt_of_le (m := 10 ^ 40) (by omega) (by decide +kernel)))]
  obtain ⟨x, d', e, x0, x1⟩ := take_big d (2 * far + 1) (by omega) (by omega)
  rw [bind_ok e]
  exact ⟨x - far, d', rfl, by omega, by omega⟩
theorem take_small (d : D2) (m : Int) (h : 0 < m) (h2 : m ≤ 1000000) : ∃ x d', m_law_take (dk d) m = .ok (x, dk d') ∧ 0 ≤ x ∧ x < m := by
  have k : (10 : Int) ^ 40 = 10000000000000000000000000000000000000000 := by decide
  exact take_big d m h (by omega)
theorem nums_ok (far : Int) (h : 0 ≤ far) (h2 : far ≤ farB) {items : List Int} (hl : items.length < 16777216) (d : D2) :
    ∃ xs d', compS (fun (_ : Int) (st : List Int) => m_law_number st far >>= fun r => .ok (some r.1, r.2)) items (dk d) = .ok (xs, (dk d')) ∧ xs.length = items.length ∧ ∀ x ∈ xs, -far ≤ x ∧ x ≤ far := by
  obtain ⟨acc, st, e, ⟨d', rfl⟩, h3, h4⟩ := compS_run (f := fun (_ : Int) (st : List Int) => m_law_number st far >>= fun r => .ok (some r.1, r.2)) hl
    (fun pre acc st => (∃ d', st = (dk d')) ∧ acc.length = pre.length ∧ ∀ x ∈ acc, -far ≤ x ∧ x ≤ far) (x := (dk d)) ⟨⟨d, rfl⟩, rfl, fun _ h => nomatch h⟩ fun pre y post acc st _ ⟨⟨d', hd⟩, h3, h4⟩ => by
      subst hd
      obtain ⟨x, d2, e, hx⟩ := number_ok d' far h h2
      refine ⟨some x, (dk d2), by rw [bind_ok e], ⟨d2, rfl⟩, by simp [h3], fun z hz => ?_⟩
      rcases List.mem_append.mp hz with hz | hz
      · exact h4 z hz
      · rw [List.mem_singleton.mp hz]; exact hx
  exact ⟨acc, d', e, h3, h4⟩
theorem rangeL_mem {lo hi x : Int} : x ∈ rangeL lo hi ↔ lo ≤ x ∧ x < hi := by
  unfold rangeL
  rw [List.mem_map]
  constructor
  · rintro ⟨j, hj, rfl⟩
    have := List.mem_range.mp hj
    omega
  · rintro ⟨h1, h2⟩
    exact ⟨(x - lo).toNat, List.mem_range.mpr (by omega), by omega⟩
theorem rangeL_nodup (lo hi : Int) : (rangeL lo hi).Nodup := by
  unfold rangeL
  rw [List.nodup_iff_pairwise_ne, List.pairwise_map]
  exact List.nodup_range.imp fun h e => h (by omega)
/-- an order of all places -/
theorem order_ok (d : D2) (n : Int) (h0 : 0 ≤ n) (h1 : n ≤ 1000000) : ∃ o d', m_law_order (dk d) n = .ok (o, (dk d')) ∧ o.Perm (rangeL 0 n) := by
  unfold m_law_order
  have hr : okR n := ⟨by omega, h1⟩
  rw [chk_b hr, chk_b hr]
  have hlen : (rangeL 0 n).length = n.toNat := by rw [rangeL_length]; omega
  obtain ⟨st, e, h2⟩ := loopN_run (f := fun (_ : Int) (st26 : (List Int) × (List Int) × (List Int)) =>
      m_law_take st26.2.2 (st26.2.1.length : Int) >>= fun r36 => popI st26.2.1 r36.1 >>= fun t54 => appL st26.1 t54.1 >>= fun _ => (.ok ((st26.1 ++ [t54.1]), t54.2, r36.2) : M _))
    (all := rangeL 0 n) (fun pre st => (∃ d', st.2.2 = (dk d')) ∧ (st.1 ++ st.2.1).Perm (rangeL 0 n) ∧ st.1.length = pre.length) (x := ([], rangeL 0 n, (dk d))) ⟨⟨d, rfl⟩, List.Perm.refl _, rfl⟩ fun pre y post st ea ⟨⟨d', hd⟩, hp, hl⟩ => by
      obtain ⟨fs, ls, ds⟩ := st
      have hd : ds = (dk d') := hd
      subst hd
      have hp : (fs ++ ls).Perm (rangeL 0 n) := hp
      have hl : fs.length = pre.length := hl
      have hpl := hp.length_eq
      rw [List.length_append, hlen] at hpl
      have hal := congrArg List.length ea
      rw [List.length_append, List.length_cons, hlen] at hal
      obtain ⟨x, d2, ex, x0, x1⟩ := take_small d' (ls.length : Int) (by omega) (by omega)
      have hx : x.toNat < ls.length := by omega
      have eg : ls[x.toNat]? = some ls[x.toNat] := List.getElem?_eq_getElem hx
      refine ⟨(fs ++ [ls[x.toNat]], ls.eraseIdx x.toNat, (dk d2)), ?_, ⟨d2, rfl⟩, ?_, by simp [hl]⟩
      · show (m_law_take (dk d') (ls.length : Int) >>= fun r36 => popI ls r36.1 >>= fun t54 => appL fs t54.1 >>= fun _ => (.ok ((fs ++ [t54.1]), t54.2, r36.2) : M _)) = _
        rw [bind_ok ex, bind_ok (popI_ok x0 eg (by omega)), bind_ok (appL_ok (by omega))]
      · show ((fs ++ [ls[x.toNat]]) ++ ls.eraseIdx x.toNat).Perm (rangeL 0 n)
        refine List.Perm.trans ?_ hp
        rw [List.append_assoc]
        refine List.Perm.append_left fs ?_
        show (ls[x.toNat] :: ls.eraseIdx x.toNat).Perm ls
        exact erase_perm hx
  obtain ⟨fs, ls, ds⟩ := st
  obtain ⟨⟨d', hd⟩, hp, hl⟩ := h2
  have hd : ds = (dk d') := hd
  subst hd
  have hp : (fs ++ ls).Perm (rangeL 0 n) := hp
  have hl : fs.length = (rangeL 0 n).length := hl
  have hpl := hp.length_eq
  rw [List.length_append] at hpl
  have : ls = [] := List.length_eq_zero_iff.mp (by omega)
  subst this
  rw [List.append_nil] at hp
  rw [bind_ok e]
  exact ⟨fs, d', rfl, hp⟩

theorem at5 (a b c d e k : Int) (h : 0 ≤ k) (h5 : k < 5) (P : Int → Prop) (pa : P a) (pb : P b) (pc : P c) (pd : P d) (pe : P e) : ∃ x, L2.atI [a, b, c, d, e] k = some x ∧ P x := by
  obtain ⟨x, e1, e2⟩ := atI_some (xs := [a, b, c, d, e]) h (by simpa using h5)
  refine ⟨x, e1, ?_⟩
  have hm := List.mem_of_getElem? e2
  simp only [List.mem_cons, List.not_mem_nil, or_false] at hm
  rcases hm with rfl | rfl | rfl | rfl | rfl <;> assumption
theorem tree_ok (d : D2) (most far : Int) (m1 : 1 ≤ most) (m2 : most ≤ 1000) (f0 : 0 ≤ far) (f1 : far ≤ farB) :
    ∃ t d', m_law_tree (dk d) most far = .ok (t, (dk d')) ∧ TreeOk t ∧ (t.1.length : Int) ≤ most ∧ (∀ x ∈ t.1, -far ≤ x ∧ x ≤ far) ∧ ∀ x ∈ t.2, -far ≤ x.c ∧ x.c ≤ far := by
  unfold m_law_tree
  obtain ⟨r, d1, e1, r0, r1⟩ := take_small d most (by omega) (by omega)
  rw [bind_ok e1]
  show ∃ t d', (m_law_order (dk d1) ((1 : Int) + r) >>= _) = _ ∧ _
  obtain ⟨o, d2, e2, po⟩ := order_ok d1 (1 + r) (by omega) (by omega)
  rw [bind_ok e2]
  obtain ⟨kd, d3, e3, k0, k5⟩ := take_small d2 5 (by decide) (by decide)
  show ∃ t d', (m_law_take (dk d2) 5 >>= _) = _ ∧ _
  rw [bind_ok e3, chk_b (show okR 1 by decide), chk_b (show okR (1 + r) from ⟨by omega, by omega⟩)]
  have olen : o.length = (1 + r).toNat := by
    have := po.length_eq
    rw [rangeL_length] at this
    omega
  have ond : o.Nodup := po.nodup_iff.mpr (rangeL_nodup _ _)
  obtain ⟨st, e4, h4⟩ := loopN_run (f := fun (y47 : Int) (st60 : (List Int) × (List (T3 Int Int Int))) =>
      m_law_take st60.1 y47 >>= fun r70 =>
      m_law_take r70.2 (3 : Int) >>= fun r79 =>
      m_law_take r79.2 y47 >>= fun r88 =>
      opt (atI ([r70.1, (y47 - (1 : Int)), (0 : Int), (if ((y47 - (1 : Int)) - r79.1) > (0 : Int) then ((y47 - (1 : Int)) - r79.1) else (0 : Int)), r88.1]) kd) >>= fun y110 =>
      opt (atI o y47) >>= fun y120 =>
      opt (atI o y110) >>= fun y130 =>
      opt (atI (sortT ([y120, y130])) (0 : Int)) >>= fun y161 =>
      opt (atI (sortT ([y120, y130])) (1 : Int)) >>= fun y171 =>
      m_law_number r88.2 far >>= fun r176 =>
      appL st60.2 (T3.mk y161 y171 r176.1) >>= fun _ =>
      (.ok (r176.2, (st60.2 ++ [(T3.mk y161 y171 r176.1)])) : M _)) (all := rangeL (1 : Int) ((1 : Int) + r)) (x := ((dk d3), []))
    (fun pre st => (∃ d', st.1 = (dk d')) ∧ Grown (o.take (pre.length + 1)) st.2 ∧ ∀ x ∈ st.2, -far ≤ x.c ∧ x.c ≤ far)
    ⟨⟨d3, rfl⟩, by
      cases o with
      | nil => simp at olen; omega
      | cons p o => exact Grown.one p, fun _ h => nomatch h⟩
    fun pre y post st ea ⟨⟨d', hd⟩, hg, hc⟩ => by
      obtain ⟨ds, ts⟩ := st
      have hd : ds = (dk d') := hd
      subst hd
      have hg : Grown (o.take (pre.length + 1)) ts := hg
      have hc : ∀ x ∈ ts, -far ≤ x.c ∧ x.c ≤ far := hc
      -- the turn's number
      have hy : y = 1 + (pre.length : Int) ∧ pre.length < r.toNat := by
        have hl := congrArg List.length ea
        rw [rangeL_length, List.length_append, List.length_cons] at hl
        have hg2 : (rangeL 1 (1 + r))[pre.length]? = some y := by rw [ea]; simp
        unfold rangeL at hg2
        rw [List.getElem?_map, List.getElem?_range (by omega)] at hg2
        exact ⟨(Option.some.inj hg2).symm, by omega⟩
      obtain ⟨hy, hpl⟩ := hy
      obtain ⟨q1, d4, a1, b1, c1⟩ := take_small d' y (by omega) (by omega)
      obtain ⟨q2, d5, a2, b2, c2⟩ := take_small d4 3 (by decide) (by decide)
      obtain ⟨q3, d6, a3, b3, c3⟩ := take_small d5 y (by omega) (by omega)
      obtain ⟨at_, a4, b4, c4⟩ := at5 q1 (y - 1) 0 (if (y - 1) - q2 > 0 then (y - 1) - q2 else 0) q3 kd k0 k5 (fun x => 0 ≤ x ∧ x < y) ⟨b1, c1⟩ (by omega) (by omega) (by split <;> omega) ⟨b3, c3⟩
      obtain ⟨p, a5, b5⟩ := atI_some (xs := o) (j := y) (by omega) (by omega)
      obtain ⟨q, a6, b6⟩ := atI_some (xs := o) (j := at_) b4 (by omega)
      obtain ⟨c, d7, a7, b7⟩ := number_ok d6 far f0 f1
      have hq : q ∈ o.take (pre.length + 1) := by
        refine List.mem_iff_getElem?.mpr ⟨at_.toNat, ?_⟩
        rw [List.getElem?_take_of_lt (by omega)]
        exact b6
      have hp : p ∉ o.take (pre.length + 1) := fun hm => by
        obtain ⟨j, hj⟩ := List.mem_iff_getElem?.mp hm
        rw [List.getElem?_take] at hj
        split at hj
        · have := nd_ix ond hj b5
          omega
        · cases hj
      have hpq : p ≠ q := fun e => hp (e ▸ hq)
      have hs : sortT [p, q] = [(tieOf p q c).a, (tieOf p q c).b] := by
        rw [sort2]
        unfold tieOf
        by_cases hh : p ≤ q
        · rw [if_pos hh, if_pos hh]
        · rw [if_neg hh, if_neg hh]
      have hcc : (tieOf p q c).c = c := (tieOf_lt hpq).2.2
      have et : T3.mk (tieOf p q c).a (tieOf p q c).b c = tieOf p q c := PySem.W.T3.same rfl rfl hcc.symm
      have hlt : ts.length < 16777216 := by
        have := hg.len
        rw [List.length_take] at this
        omega
      refine ⟨((dk d7), ts ++ [tieOf p q c]), ?_, ⟨d7, rfl⟩, ?_, fun x hx => ?_⟩
      · show (m_law_take (dk d') y >>= _) = _
        rw [bind_ok a1]
        show (m_law_take (dk d4) 3 >>= _) = _
        rw [bind_ok a2]
        show (m_law_take (dk d5) y >>= _) = _
        rw [bind_ok a3]
        show (opt (atI [q1, y - 1, 0, (if (y - 1) - q2 > 0 then (y - 1) - q2 else 0), q3] kd) >>= _) = _
        rw [opt_b a4, opt_b a5, opt_b a6, hs]
        rw [opt_b (show L2.atI [(tieOf p q c).a, (tieOf p q c).b] (0 : Int) = some (tieOf p q c).a from rfl), opt_b (show L2.atI [(tieOf p q c).a, (tieOf p q c).b] (1 : Int) = some (tieOf p q c).b from rfl)]
        show (m_law_number (dk d6) far >>= _) = _
        rw [bind_ok a7]
        show (appL ts (T3.mk (tieOf p q c).a (tieOf p q c).b c) >>= _) = _
        rw [bind_ok (appL_ok hlt)]
        show (Except.ok ((dk d7), ts ++ [T3.mk (tieOf p q c).a (tieOf p q c).b c]) : M _) = _
        rw [et]
      · have e5 : o.take ((pre ++ [y]).length + 1) = o.take (pre.length + 1) ++ [p] := by
          rw [List.length_append]
          show o.take (pre.length + 1 + 1) = _
          rw [List.take_succ]
          have e6 : y.toNat = pre.length + 1 := by omega
          rw [e6] at b5
          rw [b5]
          rfl
        rw [e5]
        exact Grown.more q p c hg hq hp
      · rcases List.mem_append.mp hx with hx | hx
        · exact hc x hx
        · rw [List.mem_singleton.mp hx, hcc]
          exact b7
  obtain ⟨ds, ts⟩ := st
  obtain ⟨⟨d8, hd⟩, hg, hc⟩ := h4
  have hd : ds = (dk d8) := hd
  subst hd
  have hg : Grown (o.take ((rangeL 1 (1 + r)).length + 1)) ts := hg
  have hc : ∀ x ∈ ts, -far ≤ x.c ∧ x.c ≤ far := hc
  rw [rangeL_length] at hg
  have e5 : o.take ((1 + r - 1).toNat + 1) = o := List.take_of_length_le (by omega)
  rw [e5] at hg
  show ∃ t d', (loopN _ (rangeL 1 (1 + r)) ((dk d3), []) >>= _) = _ ∧ _
  rw [bind_ok e4, chk_b (show okR (1 + r) from ⟨by omega, by omega⟩)]
  obtain ⟨ws, d9, e6, w1, w2⟩ := nums_ok far f0 f1 (items := rangeL 0 (1 + r)) (by rw [rangeL_length]; omega) d8
  show ∃ t d', (compS _ (rangeL 0 (1 + r)) (dk d8) >>= _) = _ ∧ _
  rw [bind_ok e6]
  rw [rangeL_length] at w1
  have hlen : ((1 + r).toNat : Int) = 1 + r := by omega
  refine ⟨(ws, sortT ts), d9, rfl, ⟨⟨o, ts, hg, ?_, rfl⟩⟩, ?_, w2, fun x hx => hc x (sortT_mem.mp hx)⟩
  · show o.Perm (rangeL 0 (ws.length : Int))
    have : (ws.length : Int) = 1 + r := by omega
    rw [this]
    exact po
  · show (ws.length : Int) ≤ most
    omega

theorem rangeL_len0 (n : Nat) : (rangeL 0 (n : Int)).length = n := by rw [rangeL_length]; omega

theorem cut10 (ns : List Int) (k : Nat) : (cutL ns none (some (k : Int))).length ≤ ns.length := by
  unfold cutL
  rw [List.length_take, List.length_drop]
  omega
theorem at4 (k : Int) (h : 0 ≤ k) (h4 : k < 4) : ∃ x, L2.atI [(10 : Int), 10, 10, 40] k = some x ∧ (x = 10 ∨ x = 40) := by
  obtain ⟨x, e1, e2⟩ := atI_some (xs := [(10 : Int), 10, 10, 40]) h (by simpa using h4)
  refine ⟨x, e1, ?_⟩
  have hm := List.mem_of_getElem? e2
  simp only [List.mem_cons, List.not_mem_nil, or_false] at hm
  omega

theorem dPut_new {κ β : Type} [DecidableEq κ] {xs : List (κ × β)} {k : κ} {y : β} (h : ∀ p ∈ xs, p.1 ≠ k) : dPut xs k y = xs ++ [(k, y)] := by
  unfold dPut
  rw [if_neg]
  intro z
  obtain ⟨p, hp, e⟩ := List.any_eq_true.mp z
  exact h p hp (of_decide_eq_true e)

theorem comp2 {i c : Type} {f : i → Unit → M (Option c × Unit)} {a b : i} {va vb : c} (ha : f a () = .ok (some va, ())) (hb : f b () = .ok (some vb, ())) : compS f [a, b] () = .ok ([va, vb], ()) := by
  unfold compS
  rw [chk_b (show [a, b].length < 16777216 by show 2 < 16777216; decide)]
  show (nox (f a ()) >>= _) = _
  rw [ha]
  show (nox (f b ()) >>= _) = _
  rw [hb]
  rfl
theorem s_no : ¬ ("own" : Str) = ("number" : Str) := by decide +kernel
theorem s_nt : ¬ ("tie" : Str) = ("number" : Str) := by decide +kernel
theorem s_ns : ¬ ("so" : Str) = ("number" : Str) := by decide +kernel
theorem s_nm : ¬ ("more" : Str) = ("number" : Str) := by decide +kernel
theorem s_to : ¬ ("tie" : Str) = ("own" : Str) := by decide +kernel
theorem s_so : ¬ ("so" : Str) = ("own" : Str) := by decide +kernel
theorem s_mo : ¬ ("more" : Str) = ("own" : Str) := by decide +kernel
theorem s_st : ¬ ("so" : Str) = ("tie" : Str) := by decide +kernel
theorem s_mt : ¬ ("more" : Str) = ("tie" : Str) := by decide +kernel
theorem s_ms : ¬ ("more" : Str) = ("so" : Str) := by decide +kernel
section
variable {own tie : Int} {so more : List Int}
def OpW (w : Str) : Prop := w = "plus" ∨ w = "less" ∨ w = "times" ∨ w = "most" ∨ w = "least"
theorem op_sum {d : Nat} {w : Str} {a b : Sm} {va vb : Int} (hw : OpW w) (ha : m_sum_at d a own tie so more = .ok va) (hb : m_sum_at d b own tie so more = .ok vb) :
    m_sum_at (d + 1) (.two w a b) own tie so more = (if w = ("plus" : Str) then .ok (va + vb) else if w = ("less" : Str) then .ok (va - vb) else if w = ("times" : Str) then (chk (CMulW va vb) >>= fun _ => .ok (va * vb)) else if w = ("most" : Str) then .ok (if vb > va then vb else va) else .ok (if vb < va then vb else va)) := by
  have h1 : ¬ w = ("number" : Str) ∧ ¬ w = ("own" : Str) ∧ ¬ w = ("tie" : Str) ∧ ¬ w = ("so" : Str) ∧ ¬ w = ("more" : Str) := by
    rcases hw with e | e | e | e | e <;> subst e <;> decide +kernel
  unfold m_sum_at
  rw [if_neg (show ¬ Sm.word (.two w a b) = _ from h1.1), if_neg (show ¬ Sm.word (.two w a b) = _ from h1.2.1), if_neg (show ¬ Sm.word (.two w a b) = _ from h1.2.2.1), if_neg (show ¬ Sm.word (.two w a b) = _ from h1.2.2.2.1), if_neg (show ¬ Sm.word (.two w a b) = _ from h1.2.2.2.2)]
  rw [opt_b (show Sm.two? (.two w a b) = some (a, b) from rfl)]
  rw [bind_ok (comp2 (va := va) (vb := vb) (by show (m_sum_at d a own tie so more >>= _) = _; rw [bind_ok ha]) (by show (m_sum_at d b own tie so more >>= _) = _; rw [bind_ok hb]))]
  rfl
theorem op_val {d : Nat} {w : Str} {a b : Sm} {va vb : Int} {kn : List (Str × IL)} (hw : OpW w) (ha : m_law_value d a kn = .ok va) (hb : m_law_value d b kn = .ok vb) :
    m_law_value (d + 1) (.two w a b) kn = (if w = ("times" : Str) then (chk (CMulW va vb) >>= fun _ => .ok (va * vb)) else if w ∈ ([("plus" : Str), "less"] : List Str) then (opt (atI [(1 : Int), -1] (if (decide (w = ("less" : Str))) = true then (1 : Int) else 0)) >>= fun y => chk (CMulW y vb) >>= fun _ => .ok (va + y * vb)) else (opt (atI (sortT [va, vb]) (if (decide (w = ("most" : Str))) = true then (1 : Int) else 0)) >>= fun y => .ok y)) := by
  have h1 : ¬ w = ("number" : Str) ∧ ¬ w ∈ ([("own" : Str), "tie"] : List Str) ∧ ¬ w ∈ ([("so" : Str), "more"] : List Str) := by
    rcases hw with e | e | e | e | e <;> subst e <;> decide +kernel
  unfold m_law_value
  rw [if_neg (show ¬ Sm.word (.two w a b) = _ from h1.1), if_neg (show ¬ Sm.word (.two w a b) ∈ ([("own" : Str), "tie"] : List Str) from h1.2.1), if_neg (show ¬ Sm.word (.two w a b) ∈ ([("so" : Str), "more"] : List Str) from h1.2.2)]
  rw [opt_b (show Sm.two? (.two w a b) = some (a, b) from rfl)]
  rw [bind_ok (comp2 (va := va) (vb := vb) (by show (m_law_value d a kn >>= _) = _; rw [bind_ok ha]) (by show (m_law_value d b kn >>= _) = _; rw [bind_ok hb]))]
  rfl
end
theorem words_at {ws : List Str} (h : ∀ w ∈ ws, OpW w) {k : Int} (k0 : 0 ≤ k) (k1 : k < ws.length) : ∃ w, L2.atI ws k = some w ∧ OpW w := by
  obtain ⟨w, e1, e2⟩ := atI_some k0 k1
  exact ⟨w, e1, h w (List.mem_of_getElem? e2)⟩

/-! ### drawn sums and rules -/
def LeafIn (ws : List Str) (many : Int) (x : Sm) : Prop := (∃ n : Int, x = .num "number" n ∧ n.natAbs < 100) ∨ (x = .nam "own" ∧ ("own" : Str) ∈ ws) ∨ (x = .nam "tie" ∧ ("tie" : Str) ∈ ws) ∨ (∃ k : Int, x = .num "so" k ∧ (0 ≤ k ∧ k < many) ∧ ("so" : Str) ∈ ws) ∨ ∃ k : Int, x = .num "more" k ∧ (0 ≤ k ∧ k < many) ∧ ("more" : Str) ∈ ws
/-- the bits of a leaf's worth -/
def lb (S M : Nat) (x : Sm) : Nat := if x.word = ("so" : Str) then S else if x.word = ("more" : Str) then M else 100
def Op4 (w : Str) : Prop := w = "plus" ∨ w = "less" ∨ w = "most" ∨ w = "least"
def Good2 (ws : List Str) (many : Int) : Nat → Sm → Prop
  | 0, _ => False
  | d + 1, x => LeafIn ws many x ∨ (∃ a b, x = .two "times" a b ∧ LeafIn ws many a ∧ LeafIn ws many b ∧ ∀ S M, lb S M a + lb S M b ≤ S + M + 200) ∨ ∃ w a b, x = .two w a b ∧ Op4 w ∧ Good2 ws many d a ∧ Good2 ws many d b
def four : List Str := ["own", "tie", "so", "more"]
theorem LeafIn.sub {ws ws' : List Str} {many : Int} {x : Sm} (h : LeafIn ws many x) (s : ∀ w ∈ ws, w ∈ ws') : LeafIn ws' many x := by
  rcases h with h | ⟨e, h⟩ | ⟨e, h⟩ | ⟨k, e, hk, h⟩ | ⟨k, e, hk, h⟩
  · exact .inl h
  · exact .inr (.inl ⟨e, s _ h⟩)
  · exact .inr (.inr (.inl ⟨e, s _ h⟩))
  · exact .inr (.inr (.inr (.inl ⟨k, e, hk, s _ h⟩)))
  · exact .inr (.inr (.inr (.inr ⟨k, e, hk, s _ h⟩)))
theorem leaf_ok2 (ws : List Str) (hw : ∀ w ∈ ws, w ∈ four) (hl : ws.length ≤ 4) (many : Int) (m1 : 1 ≤ many) (m2 : many ≤ 3) (d : D2) : ∃ x d', m_law_leaf (dk d) ws many = .ok (x, (dk d')) ∧ LeafIn ws many x := by
  obtain ⟨w, d1, e1, w0, w5⟩ := take_small d (1 + (ws.length : Int)) (by omega) (by omega)
  unfold m_law_leaf
  rw [bind_ok e1]
  show ∃ x d', (if w = 0 then _ else _) = _ ∧ _
  by_cases h0 : w = 0
  · rw [if_pos h0]
    obtain ⟨n, d2, e2, n0, n1⟩ := take_small d1 19 (by decide) (by decide)
    show ∃ x d', (m_law_take (dk d1) 19 >>= _) = _ ∧ _
    rw [bind_ok e2]
    exact ⟨_, d2, rfl, .inl ⟨n - 9, rfl, by omega⟩⟩
  · rw [if_neg h0]
    obtain ⟨z, a1, a2⟩ := atI_some (xs := ws) (j := w - 1) (by omega) (by omega)
    have hz := List.mem_of_getElem? a2
    rw [opt_b a1]
    by_cases hs : z ∈ ([("so" : Str), "more"] : List Str)
    · show ∃ x d', (if z ∈ ([("so" : Str), "more"] : List Str) then _ else _) = _ ∧ _
      rw [if_pos hs, opt_b a1]
      obtain ⟨k, d2, e2, k0, k1⟩ := take_small d1 many (by omega) (by omega)
      show ∃ x d', (m_law_take (dk d1) many >>= _) = _ ∧ _
      rw [bind_ok e2]
      rcases List.mem_cons.mp hs with e | e
      · subst e
        exact ⟨_, d2, rfl, .inr (.inr (.inr (.inl ⟨k, rfl, ⟨k0, k1⟩, hz⟩)))⟩
      · have e := List.mem_singleton.mp e
        subst e
        exact ⟨_, d2, rfl, .inr (.inr (.inr (.inr ⟨k, rfl, ⟨k0, k1⟩, hz⟩)))⟩
    · show ∃ x d', (if z ∈ ([("so" : Str), "more"] : List Str) then _ else _) = _ ∧ _
      rw [if_neg hs, opt_b a1]
      refine ⟨_, d1, rfl, ?_⟩
      have h4 := hw z hz
      unfold four at h4
      simp only [List.mem_cons, List.not_mem_nil, or_false] at h4 hs
      rcases h4 with e | e | e | e
      · subst e; exact .inr (.inl ⟨rfl, hz⟩)
      · subst e; exact .inr (.inr (.inl ⟨rfl, hz⟩))
      · exact (hs (.inl e)).elim
      · exact (hs (.inr e)).elim
theorem lb_le {ws : List Str} {many : Int} {x : Sm} (h : LeafIn ws many x) : (x.word = "so" ∧ ("so" : Str) ∈ ws) ∨ (x.word = "more" ∧ ("more" : Str) ∈ ws) ∨ (¬ x.word = ("so" : Str) ∧ ¬ x.word = ("more" : Str)) := by
  rcases h with ⟨n, e, _⟩ | ⟨e, h⟩ | ⟨e, h⟩ | ⟨k, e, hk, h⟩ | ⟨k, e, hk, h⟩
  · subst e; exact .inr (.inr ⟨fun z => s_ns z.symm, fun z => s_nm z.symm⟩)
  · subst e; exact .inr (.inr ⟨fun z => s_so z.symm, fun z => s_mo z.symm⟩)
  · subst e; exact .inr (.inr ⟨fun z => s_st z.symm, fun z => s_mt z.symm⟩)
  · subst e; exact .inl ⟨rfl, h⟩
  · subst e; exact .inr (.inl ⟨rfl, h⟩)
theorem pair_lb {ls rs : List Str} {many many' : Int} {a b : Sm} (ha : LeafIn ls many a) (hb : LeafIn rs many' b) (h1 : ¬ (("so" : Str) ∈ ls ∧ ("so" : Str) ∈ rs)) (h2 : ¬ (("more" : Str) ∈ ls ∧ ("more" : Str) ∈ rs)) (S M : Nat) : lb S M a + lb S M b ≤ S + M + 200 := by
  unfold lb
  rcases lb_le ha with ⟨e, m⟩ | ⟨e, m⟩ | ⟨e, e'⟩ <;> rcases lb_le hb with ⟨f, n⟩ | ⟨f, n⟩ | ⟨f, f'⟩
  · exact (h1 ⟨m, n⟩).elim
  · rw [if_pos e, f, if_neg s_ms, if_pos rfl]; omega
  · rw [if_pos e, if_neg f, if_neg f']; omega
  · rw [e, if_neg s_ms, if_pos rfl, if_pos f]; omega
  · exact (h2 ⟨m, n⟩).elim
  · rw [e, if_neg s_ms, if_pos rfl, if_neg f, if_neg f']; omega
  · rw [if_neg e, if_neg e', if_pos f]; omega
  · rw [if_neg e, if_neg e', f, if_neg s_ms, if_pos rfl]; omega
  · rw [if_neg e, if_neg e', if_neg f, if_neg f']; omega
theorem ops4 : ∀ w ∈ [("plus" : Str), "less", "most", "least", "plus"], Op4 w := by
  intro w hw
  unfold Op4
  simp only [List.mem_cons, List.not_mem_nil, or_false] at hw
  rcases hw with e | e | e | e | e <;> simp [e]
structure WsOk (ws : List Str) : Prop where
  four : ∀ w ∈ ws, w ∈ four
  len : ws.length ≤ 4
  cut : ∃ l r, cutL ws (some (-(1 : Int))) none = [r] ∧ cutL ws none (some (1 : Int)) = [l] ∧ l ∈ ws ∧ r ∈ ws ∧ ¬ (l = "so" ∧ r = "so") ∧ ¬ (l = "more" ∧ r = "more")
theorem sum_ok (ws : List Str) (W : WsOk ws) (many : Int) (m1 : 1 ≤ many) (m2 : many ≤ 3) (times : Bool) : ∀ (p n : Nat) (d : D2), p < n → ∃ x d', m_law_sum n (dk d) ws many (p : Int) times = .ok (x, (dk d')) ∧ Good2 ws many (p + 1) x
  | _, 0, _, h => absurd h (Nat.not_lt_zero _)
  | 0, n + 1, d, _ => by
    obtain ⟨w, d1, e1, w0, w9⟩ := take_small d 7 (by decide) (by decide)
    obtain ⟨x, d2, e2, hx⟩ := leaf_ok2 ws W.four W.len many m1 m2 d1
    unfold m_law_sum
    rw [bind_ok e1, if_pos (show ((0 : Nat) : Int) = 0 from rfl)]
    show ∃ x d', (m_law_leaf (dk d1) ws many >>= _) = _ ∧ _
    rw [bind_ok e2]
    exact ⟨x, d2, rfl, .inl hx⟩
  | p + 1, n + 1, d, h => by
    obtain ⟨w, d1, e1, w0, w9⟩ := take_small d 7 (by decide) (by decide)
    unfold m_law_sum
    rw [bind_ok e1, if_neg (by omega)]
    show ∃ x d', (if w < 2 then _ else _) = _ ∧ _
    by_cases hw : w < 2
    · rw [if_pos hw]
      obtain ⟨x, d2, e2, hx⟩ := leaf_ok2 ws W.four W.len many m1 m2 d1
      show ∃ x d', (m_law_leaf (dk d1) ws many >>= _) = _ ∧ _
      rw [bind_ok e2]
      exact ⟨x, d2, rfl, .inl hx⟩
    · rw [if_neg hw]
      obtain ⟨a, d2, e2, ha⟩ := sum_ok ws W many m1 m2 times p n d1 (by omega)
      obtain ⟨o, e3, e3'⟩ := atI_some (xs := [("plus" : Str), "less", "most", "least", "plus"]) (j := w - 2) (by omega) (by show w - 2 < ((5 : Nat) : Int); omega)
      have ho := ops4 o (List.mem_of_getElem? e3')
      obtain ⟨b, d3, e4, hb⟩ := sum_ok ws W many m1 m2 times p n d2 (by omega)
      have plain : ∃ x d', (m_law_sum n (dk d1) ws many (((p + 1 : Nat) : Int) - 1) times >>= fun r184 => opt (atI ([("plus" : Str), ("less" : Str), ("most" : Str), ("least" : Str), ("plus" : Str)]) (w - (2 : Int))) >>= fun y208 => m_law_sum n r184.2 ws many (((p + 1 : Nat) : Int) - 1) times >>= fun r213 => (.ok ((Sm.two (T3.mk y208 r184.1 r213.1).a (T3.mk y208 r184.1 r213.1).b (T3.mk y208 r184.1 r213.1).c), r213.2) : M _)) = .ok (x, (dk d')) ∧ Good2 ws many (p + 1 + 1) x := by
        rw [show (((p + 1 : Nat) : Int) - 1) = (p : Int) by omega]
        rw [bind_ok e2, opt_b e3]
        show ∃ x d', (m_law_sum n (dk d2) ws many (p : Int) times >>= _) = _ ∧ _
        rw [bind_ok e4]
        exact ⟨_, d3, rfl, .inr (.inr ⟨o, a, b, rfl, ho, ha, hb⟩)⟩
      show ∃ x d', (if w = 6 then _ else _) = _ ∧ _
      by_cases h6 : w = 6
      · rw [if_pos h6]
        cases times with
        | false =>
          rw [if_neg Bool.false_ne_true]
          exact plain
        | true =>
          rw [if_pos rfl]
          obtain ⟨l, r, c1, c2, hl, hr, n1, n2⟩ := W.cut
          have sub1 : ∀ (y : Str), y ∈ ws → ∀ z ∈ [y], z ∈ ws := fun y hy z hz => by rw [List.mem_singleton.mp hz]; exact hy
          obtain ⟨x1, f1, g1, q1⟩ := leaf_ok2 [r] (fun z hz => W.four z (sub1 r hr z hz)) (by simp) many m1 m2 d1
          obtain ⟨x2, f2, g2, q2⟩ := leaf_ok2 [] (fun _ h => nomatch h) (by simp) 1 (by omega) (by omega) f1
          obtain ⟨x3, f3, g3, q3⟩ := leaf_ok2 [l] (fun z hz => W.four z (sub1 l hl z hz)) (by simp) many m1 m2 f2
          obtain ⟨j, f4, g4, j0, j2⟩ := take_small f3 2 (by decide) (by decide)
          rw [c1, c2]
          show ∃ x d', (m_law_leaf (dk d1) [r] many >>= _) = _ ∧ _
          rw [bind_ok g1]
          show ∃ x d', (m_law_leaf (dk f1) [] 1 >>= _) = _ ∧ _
          rw [bind_ok g2]
          show ∃ x d', (m_law_leaf (dk f2) [l] many >>= _) = _ ∧ _
          rw [bind_ok g3]
          show ∃ x d', (m_law_take (dk f3) 2 >>= _) = _ ∧ _
          rw [bind_ok g4]
          have q2' : LeafIn [] many x2 := by
            rcases q2 with z | ⟨_, z⟩ | ⟨_, z⟩ | ⟨_, _, _, z⟩ | ⟨_, _, _, z⟩
            · exact .inl z
            all_goals cases z
          have hj : j = 0 ∨ j = 1 := by omega
          rcases hj with e | e
          · subst e
            refine ⟨_, f4, rfl, .inr (.inl ⟨x2, x1, rfl, q2'.sub (fun _ h => nomatch h), q1.sub (sub1 r hr), pair_lb q2' q1 (fun z => absurd z.1 List.not_mem_nil) (fun z => absurd z.1 List.not_mem_nil)⟩)⟩
          · subst e
            refine ⟨_, f4, rfl, .inr (.inl ⟨x3, x1, rfl, q3.sub (sub1 l hl), q1.sub (sub1 r hr), pair_lb q3 q1 (fun z => n1 ⟨(List.mem_singleton.mp z.1).symm, (List.mem_singleton.mp z.2).symm⟩) (fun z => n2 ⟨(List.mem_singleton.mp z.1).symm, (List.mem_singleton.mp z.2).symm⟩)⟩)⟩
      · rw [if_neg h6]
        exact plain

abbrev Rule := T4 (List Sm) (List Sm) (List Sm) Sm
def wsB : List Str := ["own"]
def wsO : List Str := ["more", "own", "tie"]
def wsJ : List Str := ["so", "own", "more"]
def wsT : List Str := ["so", "own"]
theorem okB : WsOk wsB := ⟨by decide +kernel, by decide +kernel, "own", "own", rfl, rfl, by decide +kernel, by decide +kernel, by decide +kernel, by decide +kernel⟩
theorem okO : WsOk wsO := ⟨by decide +kernel, by decide +kernel, "more", "tie", rfl, rfl, by decide +kernel, by decide +kernel, by decide +kernel, by decide +kernel⟩
theorem okJ : WsOk wsJ := ⟨by decide +kernel, by decide +kernel, "so", "more", rfl, rfl, by decide +kernel, by decide +kernel, by decide +kernel, by decide +kernel⟩
theorem okT : WsOk wsT := ⟨by decide +kernel, by decide +kernel, "so", "own", rfl, rfl, by decide +kernel, by decide +kernel, by decide +kernel, by decide +kernel⟩
structure RuleOk (r : Rule) (many : Int) : Prop where
  m1 : 1 ≤ many
  m2 : many ≤ 3
  la : (r.a.length : Int) = many
  lb : (r.b.length : Int) = many
  lc : (r.c.length : Int) = many
  ga : ∀ x ∈ r.a, Good2 wsB many 3 x
  gb : ∀ x ∈ r.b, Good2 wsO many 3 x
  gc : ∀ x ∈ r.c, Good2 wsJ many 3 x
  gd : Good2 wsT many 3 r.d
theorem sums_ok (ws : List Str) (W : WsOk ws) (many : Int) (m1 : 1 ≤ many) (m2 : many ≤ 3) (times : Bool) (d : D2) :
    ∃ xs d', compS (fun (y74 : Int) (st92 : (List Int)) =>
      m_law_sum 5 st92 ws many (2 : Int) times >>= fun r98 =>
      .ok (some r98.1, r98.2)) (rangeL 0 many) (dk d) = .ok (xs, (dk d')) ∧ (xs.length : Int) = many ∧ ∀ x ∈ xs, Good2 ws many 3 x := by
  obtain ⟨acc, st, e, ⟨d', hd⟩, h3, h4⟩ := compS_run (f := fun (y74 : Int) (st92 : (List Int)) =>
      m_law_sum 5 st92 ws many (2 : Int) times >>= fun r98 =>
      .ok (some r98.1, r98.2)) (all := rangeL 0 many) (by rw [rangeL_length]; omega)
    (fun pre acc st => (∃ d', st = (dk d')) ∧ acc.length = pre.length ∧ ∀ x ∈ acc, Good2 ws many 3 x) (x := (dk d)) ⟨⟨d, rfl⟩, rfl, fun _ h => nomatch h⟩ fun pre y post acc st _ ⟨⟨d', hd⟩, h3, h4⟩ => by
      subst hd
      obtain ⟨x, d2, e, hx⟩ := sum_ok ws W many m1 m2 times 2 5 d' (by decide)
      refine ⟨some x, (dk d2), by rw [bind_ok (show m_law_sum 5 (dk d') ws many (2 : Int) times = _ from e)], ⟨d2, rfl⟩, by rw [List.length_append, List.length_append, h3, List.length_singleton, List.length_singleton], fun z hz => ?_⟩
      rcases List.mem_append.mp hz with hz | hz
      · exact h4 z hz
      · rw [List.mem_singleton.mp hz]; exact hx
  subst hd
  rw [rangeL_length] at h3
  exact ⟨acc, d', e, by omega, h4⟩
theorem loop3 {i s : Type} {f : i → s → M s} {a b c : i} {x x1 x2 x3 : s} (h1 : f a x = .ok x1) (h2 : f b x1 = .ok x2) (h3 : f c x2 = .ok x3) : loopN f [a, b, c] x = .ok x3 := by
  show (f a x >>= _) = _
  rw [bind_ok h1]
  show (f b x1 >>= _) = _
  rw [bind_ok h2]
  show (f c x2 >>= _) = _
  rw [bind_ok h3]
  rfl
theorem rule_ok (d : D2) (times : Bool) : ∃ r d' many, m_law_rule (dk d) times = .ok (r, (dk d')) ∧ RuleOk r many := by
  obtain ⟨k, d1, e1, k0, k3⟩ := take_small d 3 (by decide) (by decide)
  have m1 : 1 ≤ 1 + k := by omega
  have m2 : 1 + k ≤ 3 := by omega
  obtain ⟨xa, d2, ea, la, ga⟩ := sums_ok wsB okB (1 + k) m1 m2 times d1
  obtain ⟨xb, d3, eb, lb, gb⟩ := sums_ok wsO okO (1 + k) m1 m2 times d2
  obtain ⟨xc, d4, ec, lc, gc⟩ := sums_ok wsJ okJ (1 + k) m1 m2 times d3
  obtain ⟨xd, d5, ed, gd⟩ := sum_ok wsT okT (1 + k) m1 m2 times 2 5 d4 (by decide)
  refine ⟨⟨xa, xb, xc, xd⟩, d5, 1 + k, ?_, ⟨m1, m2, la, lb, lc, ga, gb, gc, gd⟩⟩
  unfold m_law_rule
  rw [bind_ok e1]
  have ok : okR (1 + k) := ⟨by omega, by omega⟩
  rw [bind_ok (loop3 (x1 := ([xa], (dk d2))) (x2 := ([xa, xb], (dk d3))) (x3 := ([xa, xb, xc], (dk d4))) (by
      show (chk (okR (1 + k)) >>= _) = _
      rw [chk_b ok]
      exact (bind_ok ea _).trans rfl) (by
      show (chk (okR (1 + k)) >>= _) = _
      rw [chk_b ok]
      exact (bind_ok eb _).trans rfl) (by
      show (chk (okR (1 + k)) >>= _) = _
      rw [chk_b ok]
      exact (bind_ok ec _).trans rfl))]
  rw [opt_b (show L2.atI [xa, xb, xc] (0 : Int) = some xa from rfl), opt_b (show L2.atI [xa, xb, xc] (1 : Int) = some xb from rfl), opt_b (show L2.atI [xa, xb, xc] (2 : Int) = some xc from rfl)]
  show (m_law_sum 5 (dk d4) wsT (1 + k) (2 : Int) times >>= _) = _
  rw [bind_ok (show m_law_sum 5 (dk d4) wsT (1 + k) (2 : Int) times = _ from ed)]
theorem may_leaf {ws ws' : List Str} {many : Int} (s : ∀ w ∈ ws, w ∈ ws') (n : Nat) {x : Sm} (h : LeafIn ws many x) : m_may_stand (n + 1) x ⟨ws'⟩ many = .ok true := by
  unfold m_may_stand
  rcases h with ⟨k, e, _⟩ | ⟨e, h⟩ | ⟨e, h⟩ | ⟨k, e, hk, h⟩ | ⟨k, e, hk, h⟩
  · subst e
    rw [if_pos (show Sm.word (.num "number" k) = ("number" : Str) from rfl)]
  · subst e
    rw [if_neg (show ¬ Sm.word (.nam "own") = ("number" : Str) from s_no), if_pos (show Sm.word (.nam "own") ∈ ([("own" : Str), "tie"] : List Str) from List.mem_cons_self)]
    exact congrArg Except.ok (decide_eq_true (s _ h))
  · subst e
    rw [if_neg (show ¬ Sm.word (.nam "tie") = ("number" : Str) from s_nt), if_pos (show Sm.word (.nam "tie") ∈ ([("own" : Str), "tie"] : List Str) from List.mem_cons_of_mem _ List.mem_cons_self)]
    exact congrArg Except.ok (decide_eq_true (s _ h))
  · subst e
    rw [if_neg (show ¬ Sm.word (.num "so" k) = ("number" : Str) from s_ns), if_neg (show ¬ Sm.word (.num "so" k) ∈ ([("own" : Str), "tie"] : List Str) from fun z => by
      rcases List.mem_cons.mp z with z | z
      · exact s_so z
      · exact s_st (List.mem_singleton.mp z)), if_pos (show Sm.word (.num "so" k) ∈ ([("so" : Str), "more"] : List Str) from List.mem_cons_self), if_pos (show Sm.word (.num "so" k) ∈ ws' from s _ h)]
    rw [opt_b (show Sm.int? (.num "so" k) = some k from rfl), if_pos hk.1]
    exact congrArg Except.ok (decide_eq_true hk.2)
  · subst e
    rw [if_neg (show ¬ Sm.word (.num "more" k) = ("number" : Str) from s_nm), if_neg (show ¬ Sm.word (.num "more" k) ∈ ([("own" : Str), "tie"] : List Str) from fun z => by
      rcases List.mem_cons.mp z with z | z
      · exact s_mo z
      · exact s_mt (List.mem_singleton.mp z)), if_pos (show Sm.word (.num "more" k) ∈ ([("so" : Str), "more"] : List Str) from List.mem_cons_of_mem _ List.mem_cons_self), if_pos (show Sm.word (.num "more" k) ∈ ws' from s _ h)]
    rw [opt_b (show Sm.int? (.num "more" k) = some k from rfl), if_pos hk.1]
    exact congrArg Except.ok (decide_eq_true hk.2)
theorem may_two {ws' : List Str} {many : Int} {n : Nat} {w : Str} {a b : Sm} (hw : OpW w) (ha : m_may_stand n a ⟨ws'⟩ many = .ok true) (hb : m_may_stand n b ⟨ws'⟩ many = .ok true) : m_may_stand (n + 1) (.two w a b) ⟨ws'⟩ many = .ok true := by
  have h1 : ¬ w = ("number" : Str) ∧ ¬ w ∈ ([("own" : Str), "tie"] : List Str) ∧ ¬ w ∈ ([("so" : Str), "more"] : List Str) := by
    rcases hw with e | e | e | e | e <;> subst e <;> decide +kernel
  unfold m_may_stand
  rw [if_neg (show ¬ Sm.word (.two w a b) = _ from h1.1), if_neg (show ¬ Sm.word (.two w a b) ∈ ([("own" : Str), "tie"] : List Str) from h1.2.1), if_neg (show ¬ Sm.word (.two w a b) ∈ ([("so" : Str), "more"] : List Str) from h1.2.2)]
  rw [opt_b (show Sm.two? (.two w a b) = some (a, b) from rfl)]
  show (m_may_stand n a ⟨ws'⟩ many >>= _) = _
  rw [bind_ok ha, if_pos rfl, opt_b (show Sm.two? (.two w a b) = some (a, b) from rfl)]
  show (m_may_stand n b ⟨ws'⟩ many >>= _) = _
  rw [bind_ok hb]
theorem op4w {w : Str} (h : Op4 w) : OpW w := by
  rcases h with e | e | e | e
  · exact .inl e
  · exact .inr (.inl e)
  · exact .inr (.inr (.inr (.inl e)))
  · exact .inr (.inr (.inr (.inr e)))
theorem may_ok {ws ws' : List Str} {many : Int} (s : ∀ w ∈ ws, w ∈ ws') : ∀ (n d : Nat) (x : Sm), d + 1 ≤ n → Good2 ws many d x → m_may_stand n x ⟨ws'⟩ many = .ok true
  | 0, _, _, h, _ => absurd h (by omega)
  | _, 0, _, _, h => h.elim
  | n + 1, d + 1, x, hn, h => by
    rcases h with h | ⟨a, b, e, ha, hb, _⟩ | ⟨w, a, b, e, hw, ha, hb⟩
    · exact may_leaf s n h
    · subst e
      obtain ⟨n', rfl⟩ : ∃ n', n = n' + 1 := ⟨n - 1, by omega⟩
      exact may_two (.inr (.inr (.inl rfl))) (may_leaf s n' ha) (may_leaf s n' hb)
    · subst e
      exact may_two (op4w hw) (may_ok s n d a (by omega) ha) (may_ok s n d b (by omega) hb)
theorem is_rule_ok {r : Rule} {many : Int} (R : RuleOk r many) : m_is_rule r = .ok true := by
  have h1 := R.la
  have h2 := R.lb
  have h3 := R.lc
  have m1 := R.m1
  have m2 := R.m2
  unfold m_is_rule
  rw [if_pos (by omega), if_pos (by omega), if_neg (by omega), if_neg (by omega), h1]
  have one : ∀ (xs : List Sm) (ws ws' : List Str), xs.length < 16777216 → (∀ x ∈ xs, Good2 ws many 3 x) → (∀ w ∈ ws, w ∈ ws') →
      (compS (fun (y123 : Sm) (st140 : Unit) =>
        m_may_stand 60 y123 ⟨ws'⟩ many >>= fun r146 =>
        if r146 = true then (
        .ok (none, ()))
        else (
        .ok (some y123, ()))) xs () >>= fun q164 =>
        if q164.1 ≠ ([] : List Sm) then (
        .ok (.rt false))
        else (
        (.ok (.nx ()) : M (Fl Unit Bool)))) = .ok (.nx ()) := fun xs ws ws' hl hg hs => by
    rw [bind_ok (compS_pure (fun _ => none) hl fun y hy => by rw [bind_ok (may_ok hs 60 3 y (by decide) (hg y hy)), if_pos rfl])]
    rw [if_neg (by
      intro z
      refine z ?_
      show List.filterMap _ _ = []
      rw [List.filterMap_eq_nil_iff]
      exact fun _ _ => rfl)]
  rw [bind_ok (loopM_all fun y hy => by
    simp only [List.mem_cons, List.not_mem_nil, or_false] at hy
    rcases hy with e | e | e
    · subst e; exact one r.a wsB _ (by omega) R.ga (by decide +kernel)
    · subst e; exact one r.b wsO _ (by omega) R.gb (by decide +kernel)
    · subst e; exact one r.c wsJ _ (by omega) R.gc (by decide +kernel))]
  show (m_may_stand 60 r.d ⟨[("own" : Str), "so"]⟩ many >>= _) = _
  rw [bind_ok (may_ok (ws := wsT) (by decide +kernel) 60 3 r.d (by decide) R.gd)]

def lenOf (ts : List Tie) : List ((Int × Int) × Int) := ts.flatMap fun t => [((t.a, t.b), t.c), ((t.b, t.a), t.c)]
theorem lenOf_mem {ts : List Tie} {p : (Int × Int) × Int} : p ∈ lenOf ts ↔ ∃ t ∈ ts, p = ((t.a, t.b), t.c) ∨ p = ((t.b, t.a), t.c) := by
  unfold lenOf
  simp [List.mem_flatMap]
theorem lenOf_len : ∀ ts : List Tie, (lenOf ts).length = 2 * ts.length
  | [] => rfl
  | t :: ts => by
    show (lenOf ts).length + 1 + 1 = 2 * (ts.length + 1)
    rw [lenOf_len ts]
    omega
theorem grown_pairs {ps : List Int} {ts : List Tie} (g : Grown ps ts) : (ts.map fun x => (x.a, x.b)).Nodup := by
  induction g with
  | one p => exact List.nodup_nil
  | @more ps ts q p c g hq hp ih =>
    rw [List.map_append, List.nodup_append]
    refine ⟨ih, by simp, fun x hx y hy e => ?_⟩
    obtain ⟨t, ht, rfl⟩ := List.mem_map.mp hx
    rw [List.map_singleton, List.mem_singleton] at hy
    have hpq : p ≠ q := fun z => hp (z ▸ hq)
    obtain ⟨h1, h2, _⟩ := tieOf_lt (c := c) hpq
    obtain ⟨i1, i2, _⟩ := g.in t ht
    rw [hy] at e
    injection e with e1 e2
    rcases h2 with ⟨a, b⟩ | ⟨a, b⟩
    · rw [e1, a] at i1; exact hp i1
    · rw [e2, b] at i2; exact hp i2
theorem tree_pairs {t : Tr} (h : TreeOk t) : (t.2.map fun x => (x.a, x.b)).Nodup := by
  obtain ⟨o, ts, g, _, e⟩ := h.ex
  rw [e]
  exact ((sortT_perm ts).map _).nodup_iff.mpr (grown_pairs g)
theorem lengths_ok (t : Tr) (ht : TreeOk t) (hn : t.1.length ≤ 1000000) : m_lengths_of t = .ok (lenOf t.2) := by
  have hlen := ht.len
  have nd := tree_pairs ht
  obtain ⟨st, e1, e2⟩ := loopN_run (f := fun (y19 : (T3 Int Int Int)) (st30 : (List ((Int × Int) × Int))) =>
    putD st30 ((y19.a, y19.b).1, (y19.a, y19.b).2) y19.c >>= fun z64 =>
    putD z64 ((y19.b, y19.a).1, (y19.b, y19.a).2) y19.c >>= fun z82 =>
    (.ok z82 : M _)) (all := t.2) (x := []) (fun pre st => st = lenOf pre) rfl fun pre y post st ea es => by
      subst es
      have hm : ∀ x ∈ pre, x ∈ t.2 := fun x hx => by rw [ea]; exact List.mem_append_left _ hx
      have hy := ht.tie y (by rw [ea]; simp)
      have hlp : (lenOf pre).length = 2 * pre.length := lenOf_len pre
      have hpl : pre.length + 1 ≤ t.2.length := by
        rw [ea, List.length_append, List.length_cons]
        omega
      have n1 : ∀ x ∈ pre, ¬ (x.a = y.a ∧ x.b = y.b) := fun x hx ⟨z1, z2⟩ => by
        rw [ea, List.map_append, List.map_cons, List.nodup_append] at nd
        exact nd.2.2 (x.a, x.b) (List.mem_map.mpr ⟨x, hx, rfl⟩) (y.a, y.b) List.mem_cons_self (by rw [z1, z2])
      have k1 : ∀ p ∈ lenOf pre, p.1 ≠ (y.a, y.b) := fun p hp e => by
        obtain ⟨x, hx, h | h⟩ := lenOf_mem.mp hp
        · rw [h] at e; injection e with z1 z2; exact n1 x hx ⟨z1, z2⟩
        · rw [h] at e
          injection e with z1 z2
          have := ht.tie x (hm x hx)
          have z1 : x.b = y.a := z1
          have z2 : x.a = y.b := z2
          omega
      have k2 : ∀ p ∈ lenOf pre ++ [((y.a, y.b), y.c)], p.1 ≠ (y.b, y.a) := fun p hp e => by
        rcases List.mem_append.mp hp with hp | hp
        · obtain ⟨x, hx, h | h⟩ := lenOf_mem.mp hp
          · rw [h] at e
            injection e with z1 z2
            have := ht.tie x (hm x hx)
            have z1 : x.a = y.b := z1
            have z2 : x.b = y.a := z2
            omega
          · rw [h] at e; injection e with z1 z2; exact n1 x hx ⟨z2, z1⟩
        · rw [List.mem_singleton.mp hp] at e
          injection e with z1 z2
          have z1 : y.a = y.b := z1
          omega
      refine ⟨_, ?_, rfl⟩
      show (putD (lenOf pre) (y.a, y.b) y.c >>= fun z64 => putD z64 (y.b, y.a) y.c >>= fun z82 => _) = _
      rw [bind_ok (show putD (lenOf pre) (y.a, y.b) y.c = .ok (lenOf pre ++ [((y.a, y.b), y.c)]) by unfold putD; rw [if_pos (by omega), dPut_new k1])]
      rw [bind_ok (show putD (lenOf pre ++ [((y.a, y.b), y.c)]) (y.b, y.a) y.c = .ok ((lenOf pre ++ [((y.a, y.b), y.c)]) ++ [((y.b, y.a), y.c)]) by unfold putD; rw [if_pos (by rw [List.length_append, List.length_singleton]; omega), dPut_new k2])]
      unfold lenOf
      rw [List.flatMap_append, List.append_assoc]
      rfl
  unfold m_lengths_of
  rw [bind_ok e1, e2]
theorem keys_perm : ∀ ts : List Tie, ((lenOf ts).map (·.1)).Perm (ts.map (fun t => (t.a, t.b)) ++ ts.map (fun t => (t.b, t.a)))
  | [] => .nil
  | t :: ts => by
    show ((t.a, t.b) :: (t.b, t.a) :: (lenOf ts).map (·.1)).Perm ((t.a, t.b) :: (ts.map (fun t => (t.a, t.b)) ++ (t.b, t.a) :: ts.map (fun t => (t.b, t.a))))
    refine .cons _ (((keys_perm ts).cons _).trans List.perm_middle.symm)

/-! ### neighbours -/
def other (p : Int) (t : Tie) : Option Int := if t.a = p then some t.b else if t.b = p then some t.a else none
/-- the neighbours of a place, rising -/
def nearOf (ties : List Tie) (p : Int) : List Int := sortT (ties.filterMap (other p))
def nearAll (n : Nat) (ties : List Tie) : List (List Int) := (List.range n).map fun (i : Nat) => nearOf ties (i : Int)
theorem addAt_ok {fs : List (List Int)} {x y : Int} {l : List Int} (h0 : 0 ≤ x) (h : fs[x.toNat]? = some l) (hl : l.length < 16777216) : addAt fs x y = .ok (fs.set x.toNat (l ++ [y])) := by
  have h1 := (List.getElem?_eq_some_iff.mp h).1
  unfold addAt
  rw [ixN_nat h0 (by omega)]
  show (match fs[x.toNat]? with
    | some x_1 => appL x_1 y >>= fun y => .ok (fs.set x.toNat y)
    | none => bad) = _
  rw [h]
  show (appL l y >>= fun y => (.ok (fs.set x.toNat y) : M _)) = _
  rw [bind_ok (appL_ok hl)]
theorem tied_places_ok (n : Int) (ties : List Tie) (h0 : 0 ≤ n) (h1 : n ≤ 1000000) (hl : ties.length < 16777216) (hv : ∀ t ∈ ties, 0 ≤ t.a ∧ t.a < t.b ∧ t.b < n) : m_tied_places n ties = .ok (nearAll n.toNat ties) := by
  unfold m_tied_places
  rw [chk_b (show okR n from ⟨by omega, h1⟩)]
  obtain ⟨fs, e, h⟩ := loopN_run (f := fun (t : T3 Int Int Int) (fs : List (List Int)) => addAt fs t.a t.b >>= fun f1 => addAt f1 t.b t.a) (all := sortT ties) (x := List.replicate n.toNat [])
    (fun pre fs => fs = (List.range n.toNat).map fun (i : Nat) => pre.filterMap (other (i : Int))) (by
      refine List.ext_getElem? fun i => ?_
      rw [List.getElem?_replicate, List.getElem?_map]
      by_cases hi : i < n.toNat
      · rw [if_pos hi, List.getElem?_range hi]; rfl
      · rw [if_neg hi, List.getElem?_eq_none (by simpa using hi)]; rfl) fun pre t post fs ea hf => by
      subst hf
      have mt : t ∈ ties := sortT_mem.mp (by rw [ea]; simp)
      obtain ⟨a0, ab, bn⟩ := hv t mt
      have plen : pre.length < 16777216 := by
        have := congrArg List.length ea
        rw [sortT_len, List.length_append, List.length_cons] at this
        omega
      have g1 : ((List.range n.toNat).map fun (i : Nat) => pre.filterMap (other (i : Int)))[t.a.toNat]? = some (pre.filterMap (other t.a)) := by
        rw [List.getElem?_map, List.getElem?_range (by omega)]
        show some (pre.filterMap (other ((t.a.toNat : Nat) : Int))) = _
        rw [Int.toNat_of_nonneg a0]
      have l1 : (pre.filterMap (other t.a)).length < 16777216 := Nat.lt_of_le_of_lt (List.length_filterMap_le _ _) plen
      have g2 : (((List.range n.toNat).map fun (i : Nat) => pre.filterMap (other (i : Int))).set t.a.toNat (pre.filterMap (other t.a) ++ [t.b]))[t.b.toNat]? = some (pre.filterMap (other t.b)) := by
        rw [List.getElem?_set_ne (by omega), List.getElem?_map, List.getElem?_range (by omega)]
        show some (pre.filterMap (other ((t.b.toNat : Nat) : Int))) = _
        rw [Int.toNat_of_nonneg (by omega)]
      have l2 : (pre.filterMap (other t.b)).length < 16777216 := Nat.lt_of_le_of_lt (List.length_filterMap_le _ _) plen
      refine ⟨_, by rw [bind_ok (addAt_ok a0 g1 l1)]; exact addAt_ok (by omega) g2 l2, ?_⟩
      refine List.ext_getElem? fun i => ?_
      rw [List.getElem?_map]
      by_cases hi : i < n.toNat
      · rw [List.getElem?_range hi]
        show _ = some ((pre ++ [t]).filterMap (other (i : Int)))
        rw [List.filterMap_append]
        by_cases hb : t.b.toNat = i
        · subst hb
          rw [List.getElem?_set_self (by simpa using hi)]
          have e1 : other ((t.b.toNat : Nat) : Int) t = some t.a := by
            unfold other
            rw [if_neg (by omega), if_pos (by omega)]
          have e2 : ((t.b.toNat : Nat) : Int) = t.b := Int.toNat_of_nonneg (by omega)
          rw [List.filterMap_cons, e1, List.filterMap_nil, e2]
        · rw [List.getElem?_set_ne hb]
          by_cases ha : t.a.toNat = i
          · subst ha
            rw [List.getElem?_set_self (by simpa using hi)]
            have e1 : other ((t.a.toNat : Nat) : Int) t = some t.b := by
              unfold other
              rw [if_pos (by omega)]
            have e2 : ((t.a.toNat : Nat) : Int) = t.a := Int.toNat_of_nonneg a0
            rw [List.filterMap_cons, e1, List.filterMap_nil, e2]
          · rw [List.getElem?_set_ne ha, List.getElem?_map, List.getElem?_range hi]
            have e1 : other (i : Int) t = none := by
              unfold other
              rw [if_neg (by omega), if_neg (by omega)]
            rw [List.filterMap_cons, e1, List.filterMap_nil, List.append_nil]
            rfl
      · have z : (List.range n.toNat)[i]? = none := List.getElem?_eq_none (by simpa using hi)
        rw [z]
        show _ = none
        refine List.getElem?_eq_none ?_
        rw [List.length_set, List.length_set, List.length_map, List.length_range]
        omega
  rw [bind_ok e, h]
  refine congrArg Except.ok ?_
  unfold nearAll
  rw [List.map_map]
  refine List.map_congr_left fun i _ => ?_
  show sortT ((sortT ties).filterMap (other (i : Int))) = nearOf ties (i : Int)
  exact sortT_eq ((sortT_perm ties).filterMap _)
theorem nearAll_at {n : Nat} {ties : List Tie} {p : Int} (h0 : 0 ≤ p) (h : p < n) : L2.atI (nearAll n ties) p = some (nearOf ties p) := by
  refine atI_of h0 ?_
  unfold nearAll
  rw [List.getElem?_map, List.getElem?_range (by omega)]
  show some (nearOf ties ((p.toNat : Nat) : Int)) = _
  rw [Int.toNat_of_nonneg h0]

theorem whL_run {s r : Type} {b : s → M (Ws s r)} (P : s → Prop) (μ : s → Nat) (Qf : s → Prop) (step : ∀ x, P x → (∃ x', b x = .ok (.go x') ∧ P x' ∧ μ x' < μ x) ∨ (∃ x', b x = .ok (.stop x') ∧ Qf x')) : ∀ (n : Nat) (x : s), P x → μ x < n → ∃ x', whL b n x = .ok (.nx x') ∧ Qf x'
  | 0, x, _, h => absurd h (Nat.not_lt_zero _)
  | n + 1, x, p, h => by
    rcases step x p with ⟨x', e, p', l⟩ | ⟨x', e, q⟩
    · obtain ⟨x2, e2, q2⟩ := whL_run P μ Qf step n x' p' (by omega)
      refine ⟨x2, ?_, q2⟩
      show (b x >>= _) = _
      rw [bind_ok e]
      exact e2
    · refine ⟨x', ?_, q⟩
      show (b x >>= _) = _
      rw [bind_ok e]
theorem nd_sub_len {a : Type} [DecidableEq a] : ∀ {l m : List a}, l.Nodup → (∀ x ∈ l, x ∈ m) → l.length ≤ m.length
  | [], _, _, _ => Nat.zero_le _
  | x :: l, m, nd, h => by
    have hx := h x List.mem_cons_self
    obtain ⟨n1, n2⟩ := List.nodup_cons.mp nd
    have := nd_sub_len (l := l) (m := m.erase x) n2 fun y hy => (List.mem_erase_of_ne fun e => n1 (by rw [← e]; exact hy)).mpr (h y (List.mem_cons_of_mem _ hy))
    rw [List.length_erase_of_mem hx] at this
    have hp := List.length_pos_of_mem hx
    rw [List.length_cons]
    omega
theorem nearOf_mem {ts : List Tie} {x y : Int} (h : ∀ t ∈ ts, t.a < t.b) : y ∈ nearOf ts x ↔ ∃ t ∈ ts, (t.a = x ∧ t.b = y) ∨ (t.b = x ∧ t.a = y) := by
  unfold nearOf
  rw [sortT_mem, List.mem_filterMap]
  constructor
  · rintro ⟨t, ht, e⟩
    unfold other at e
    by_cases ha : t.a = x
    · rw [if_pos ha] at e
      exact ⟨t, ht, .inl ⟨ha, Option.some.inj e⟩⟩
    · rw [if_neg ha] at e
      by_cases hb : t.b = x
      · rw [if_pos hb] at e
        exact ⟨t, ht, .inr ⟨hb, Option.some.inj e⟩⟩
      · rw [if_neg hb] at e; cases e
  · rintro ⟨t, ht, ⟨ha, hb⟩ | ⟨hb, ha⟩⟩
    · refine ⟨t, ht, ?_⟩
      unfold other
      rw [if_pos ha, hb]
    · refine ⟨t, ht, ?_⟩
      have := h t ht
      unfold other
      rw [if_neg (by omega), if_pos hb, ha]
/-- what holds of one place and goes over ties holds of all -/
theorem grown_all {ps : List Int} {ts : List Tie} (g : Grown ps ts) (S : Int → Prop) (hS : ∀ t ∈ ts, S t.a ↔ S t.b) : (∃ x ∈ ps, S x) → ∀ x ∈ ps, S x := by
  induction g with
  | one p =>
    rintro ⟨x, hx, h⟩ y hy
    rw [List.mem_singleton.mp hx] at h
    rw [List.mem_singleton.mp hy]
    exact h
  | @more ps ts q p c g hq hp ih =>
    have ih := ih fun t ht => hS t (List.mem_append_left _ ht)
    have hpq : p ≠ q := fun z => hp (z ▸ hq)
    have hl := hS (tieOf p q c) (by simp)
    obtain ⟨_, h2, _⟩ := tieOf_lt (c := c) hpq
    have hpq2 : S p ↔ S q := by
      rcases h2 with ⟨a, b⟩ | ⟨a, b⟩
      · rw [a, b] at hl; exact hl
      · rw [a, b] at hl; exact hl.symm
    rintro ⟨x, hx, h⟩
    have hall : ∀ y ∈ ps, S y := by
      rcases List.mem_append.mp hx with hx | hx
      · exact ih ⟨x, hx, h⟩
      · rw [List.mem_singleton.mp hx] at h
        exact ih ⟨q, hq, hpq2.mp h⟩
    intro y hy
    rcases List.mem_append.mp hy with hy | hy
    · exact hall y hy
    · rw [List.mem_singleton.mp hy]
      exact hpq2.mpr (hall q hq)
theorem tree_all {t : Tr} (ht : TreeOk t) (S : Int → Prop) (hS : ∀ x ∈ t.2, S x.a ↔ S x.b) (x : Int) (x0 : 0 ≤ x) (x1 : x < (t.1.length : Int)) (h : S x) : ∀ y, 0 ≤ y → y < (t.1.length : Int) → S y := by
  obtain ⟨ps, ts, g, p, e⟩ := ht.ex
  rw [e] at hS
  intro y y0 y1
  exact grown_all g S (fun t ht => hS t (sortT_mem.mpr ht)) ⟨x, p.mem_iff.mpr (rangeL_mem.mpr ⟨x0, x1⟩), h⟩ y (p.mem_iff.mpr (rangeL_mem.mpr ⟨y0, y1⟩))
theorem nearAll_len (n : Nat) (ts : List Tie) : (nearAll n ts).length = n := by unfold nearAll; simp

/-! ### ways -/
def Step (t : Tr) (x y c : Int) : Prop := ∃ z ∈ t.2, ((z.a = x ∧ z.b = y) ∨ (z.a = y ∧ z.b = x)) ∧ z.c = c
theorem whL_runN {s r : Type} {b : s → M (Ws s r)} (P : Nat → s → Prop) (Qf : s → Prop) (step : ∀ m x, P m x → (∃ x' m', m' < m ∧ b x = .ok (.go x') ∧ P m' x') ∨ (∃ x', b x = .ok (.stop x') ∧ Qf x')) : ∀ (n m : Nat) (x : s), P m x → m < n → ∃ x', whL b n x = .ok (.nx x') ∧ Qf x'
  | 0, m, x, _, h => absurd h (Nat.not_lt_zero _)
  | n + 1, m, x, p, h => by
    rcases step m x p with ⟨x', m', l, e, p'⟩ | ⟨x', e, q⟩
    · obtain ⟨x2, e2, q2⟩ := whL_runN P Qf step n m' x' p' (by omega)
      refine ⟨x2, ?_, q2⟩
      show (b x >>= _) = _
      rw [bind_ok e]
      exact e2
    · refine ⟨x', ?_, q⟩
      show (b x >>= _) = _
      rw [bind_ok e]
theorem dGet_mem {κ β : Type} [DecidableEq κ] [Py β] : ∀ {xs : List (κ × β)} {k : κ} {v : β}, (xs.map (·.1)).Nodup → (k, v) ∈ xs → dGet xs k = some v
  | [], _, _, _, h => by cases h
  | p :: xs, k, v, nd, h => by
    rw [List.map_cons, List.nodup_cons] at nd
    rcases List.mem_cons.mp h with e | h
    · rw [← e]; exact dGet_pos rfl
    · rw [dGet_neg (fun e => nd.1 (List.mem_map.mpr ⟨(k, v), h, e.symm⟩))]
      exact dGet_mem nd.2 h
theorem dHas_iff {κ β : Type} [DecidableEq κ] [Py β] : ∀ {xs : List (κ × β)} {k : κ}, dHas xs k = true ↔ k ∈ xs.map (·.1)
  | [], k => by simp [dHas, dGet]
  | p :: xs, k => by
    rw [List.map_cons, List.mem_cons]
    unfold dHas
    by_cases e : p.1 = k
    · rw [dGet_pos e]; simp [e]
    · rw [dGet_neg e]
      have := dHas_iff (xs := xs) (k := k)
      unfold dHas at this
      rw [this]
      constructor
      · exact .inr
      · rintro (z | z)
        · exact (e z.symm).elim
        · exact z
theorem lenOf_nd {t : Tr} (ht : TreeOk t) : ((lenOf t.2).map (·.1)).Nodup := by
  refine (keys_perm t.2).nodup_iff.mpr (List.nodup_append.mpr ⟨tree_pairs ht, ?_, ?_⟩)
  · have h : (t.2.map fun x => (x.b, x.a)) = (t.2.map fun x => (x.a, x.b)).map fun p => (p.2, p.1) := by rw [List.map_map]; rfl
    rw [h]
    refine List.Pairwise.map _ ?_ (tree_pairs ht)
    intro a b hab e
    injection e with e1 e2
    exact hab (Prod.ext e2 e1)
  · rintro p hp q hq e
    subst e
    obtain ⟨x, hx, e1⟩ := List.mem_map.mp hp
    obtain ⟨y, hy, e2⟩ := List.mem_map.mp hq
    have h1 := ht.tie x hx
    have h2 := ht.tie y hy
    rw [← e2] at e1
    injection e1 with a1 a2
    omega
theorem step_len {t : Tr} (ht : TreeOk t) {x y c : Int} (h : Step t x y c) : dGet (lenOf t.2) (x, y) = some c := by
  obtain ⟨z, hz, ⟨a, b⟩ | ⟨a, b⟩, e⟩ := h
  · exact dGet_mem (lenOf_nd ht) (lenOf_mem.mpr ⟨z, hz, .inl (by rw [a, b, e])⟩)
  · exact dGet_mem (lenOf_nd ht) (lenOf_mem.mpr ⟨z, hz, .inr (by rw [a, b, e])⟩)
theorem step_rg {t : Tr} (ht : TreeOk t) {x y c : Int} (h : Step t x y c) : (0 ≤ x ∧ x < (t.1.length : Int)) ∧ (0 ≤ y ∧ y < (t.1.length : Int)) ∧ x ≠ y := by
  obtain ⟨z, hz, h, e⟩ := h
  have := ht.tie z hz
  omega
theorem near_step {t : Tr} (ht : TreeOk t) {x y : Int} : y ∈ nearOf t.2 x ↔ ∃ c, Step t x y c := by
  rw [nearOf_mem fun z hz => (ht.tie z hz).2.1]
  constructor
  · rintro ⟨z, hz, h⟩
    exact ⟨z.c, z, hz, by omega, rfl⟩
  · rintro ⟨c, z, hz, h, e⟩
    exact ⟨z, hz, by omega⟩

theorem askK {a : Type} {L : List String} {m : M Unit} {k0 : M a} {k1 : String → M a} {n : String} (h : m = raise n) (hn : n ∈ L) : tryK L m k0 k1 = k1 n := by
  rw [h]
  show (if n ∈ L then k1 n else bad) = _
  rw [if_pos hn]
theorem raise_b {a b : Type} (n : String) (k : a → M b) : (raise n >>= k) = raise n := rfl
theorem place_bad (t : Tr) (p : Int) (h : p < 0 ∨ (t.1.length : Int) ≤ p) : m_need_place t p = raise "NoPlace" := by
  unfold m_need_place
  by_cases z : 0 ≤ p
  · rw [if_pos z, if_neg (by omega)]
  · rw [if_neg z]
theorem place_good (t : Tr) (p : Int) (h0 : 0 ≤ p) (h : p < (t.1.length : Int)) : m_need_place t p = .ok () := by
  unfold m_need_place
  rw [if_pos h0, if_pos h]
theorem askP {t : Tr} {r : Rule} {one other way : Int} (h : (if way = (0 : Int) then (
    m_tied_to t one >>= fun r2 =>
    .ok ())
    else (
    if way = (1 : Int) then (
    m_way_between t one other >>= fun r148 =>
    .ok ())
    else (
    if way = (2 : Int) then (
    m_seat_worth t r one >>= fun r293 =>
    .ok ())
    else (
    m_branch_row t r (one, other) >>= fun r432 =>
    (.ok () : M Unit))))) = raise "NoPlace") : m_law_asked t r one other way = .ok "NoPlace" := by
  unfold m_law_asked
  rw [askK h (by decide), if_pos rfl]
  rfl
theorem askR {t : Tr} {r : Rule} {one other way : Int} (h : (if way = (0 : Int) then (
    m_tied_to t one >>= fun r2 =>
    .ok ())
    else (
    if way = (1 : Int) then (
    m_way_between t one other >>= fun r148 =>
    .ok ())
    else (
    if way = (2 : Int) then (
    m_seat_worth t r one >>= fun r293 =>
    .ok ())
    else (
    m_branch_row t r (one, other) >>= fun r432 =>
    (.ok () : M Unit))))) = raise "NoRule") : m_law_asked t r one other way = .ok "NoRule" := by
  unfold m_law_asked
  rw [askK h (by decide), if_neg (by decide), if_pos rfl]
  rfl
theorem loopM_rt {i s r : Type} {f : i → s → M (Fl s r)} {y : i} {ys : List i} {x : s} {z : r} (h : f y x = .ok (.rt z)) : loopM f (y :: ys) x = .ok (.rt z) := by
  show (f y x >>= _) = _
  rw [bind_ok h]
def none05 : Rule := T4.mk [Sm.nam "tie"] [Sm.num "more" 0] [Sm.num "so" 0] (Sm.num "so" 0)
theorem none05_no : m_is_rule none05 = .ok false := by
  unfold m_is_rule
  rw [if_pos (by decide), if_pos (by decide), if_neg (by decide), if_neg (by decide)]
  rw [bind_ok (loopM_rt (by
    show (compS _ [Sm.nam "tie"] () >>= _) = _
    rw [bind_ok (compS_pure (fun y => some y) (by decide) fun y hy => by
      rw [List.mem_singleton.mp hy]
      rw [bind_ok (show m_may_stand 60 (Sm.nam "tie") (Tp.mk [("own" : Str)]) ((none05.a.length : Nat) : Int) = .ok false by
        show m_may_stand (59 + 1) _ _ _ = _
        unfold m_may_stand
        rw [if_neg (by decide +kernel), if_pos (by decide +kernel)]
        rw [decide_eq_false (by decide +kernel)])]
      rw [if_neg (by decide)])]
    rw [if_pos (by intro z; exact nomatch z)]))]
theorem rule_good {r : Rule} {many : Int} (R : RuleOk r many) : m_need_rule r = .ok () := by unfold m_need_rule; rw [bind_ok (is_rule_ok R), if_pos rfl]
theorem rule_none : m_need_rule none05 = raise "NoRule" := by
  unfold m_need_rule
  rw [bind_ok none05_no, if_neg (by decide)]
theorem branch_bad (t : Tr) (ht : TreeOk t) (hn : t.1.length ≤ 100000) {r : Rule} {many : Int} (R : RuleOk r many) (p : Int × Int) (h : ¬ ∃ l, Step t p.1 p.2 l) : m_branch_row t r p = raise "NoPlace" := by
  unfold m_branch_row
  rw [bind_ok (rule_good R), bind_ok (lengths_ok t ht (by omega)), if_neg]
  intro z
  obtain ⟨q, hq, e⟩ := List.mem_map.mp (dHas_iff.mp z)
  obtain ⟨y, hy, e2 | e2⟩ := lenOf_mem.mp hq
  · rw [e2] at e
    subst e
    exact h ⟨y.c, y, hy, .inl ⟨rfl, rfl⟩, rfl⟩
  · rw [e2] at e
    subst e
    exact h ⟨y.c, y, hy, .inr ⟨rfl, rfl⟩, rfl⟩
theorem law_true (ns : List Int) (h : ns.length ≤ 63) : m_law ns = .ok true := by
  unfold m_law
  have hc := cut10 ns 15
  have hc : (cutL ns none (some (15 : Int))).length ≤ ns.length := hc
  rw [chk_b (show ([((10 : Int) ^ Int.toNat (18 : Int))]).length + (cutL ns none (some (15 : Int))).length < 16777216 by simp only [List.length_singleton]; omega)]
  rw [bind_ok (loopM_all fun c _ => ?_)]
  obtain ⟨d, e1⟩ := deck_ok c
  rw [bind_ok e1]
  obtain ⟨t, d3, e5, ht, hl, _, _⟩ := tree_ok d 10 4 (by omega) (by omega) (by decide) (by decide)
  show (m_law_tree (dk d) 10 4 >>= _) = _
  rw [bind_ok e5]
  have hlen := ht.len
  have hpos := ht.pos
  obtain ⟨r, d4, many, e6, R⟩ := rule_ok d3 false
  show (m_law_rule (dk d3) false >>= _) = _
  rw [bind_ok e6]
  obtain ⟨good, d5, e7, g0, g1⟩ := take_small d4 (t.1.length : Int) (by omega) (by omega)
  show (m_law_take (dk d4) (t.1.length : Int) >>= _) = _
  rw [bind_ok e7]
  obtain ⟨k, d6, e8, k0, k1⟩ := take_small d5 3 (by decide) (by decide)
  show (m_law_take (dk d5) 3 >>= _) = _
  rw [bind_ok e8]
  obtain ⟨big, a1, a2⟩ := atI_some (xs := [(1 : Int), 3, (10 : Int) ^ Int.toNat 30]) (j := k) k0 (by simpa using k1)
  have hbig : 0 < big ∧ big ≤ 10 ^ 40 := by
    have hm := List.mem_of_getElem? a2
    have e30 : (10 : Int) ^ Int.toNat 30 = 1000000000000000000000000000000 := by decide
    have e40 : (10 : Int) ^ 40 = 10000000000000000000000000000000000000000 := by decide
    rw [e30] at hm
    simp only [List.mem_cons, List.not_mem_nil, or_false] at hm
    omega
  show (opt (atI [(1 : Int), 3, (10 : Int) ^ Int.toNat 30] k) >>= _) = _
  rw [opt_b a1]
  obtain ⟨far, d7, e9, f0, f1⟩ := take_big d6 big hbig.1 hbig.2
  show (m_law_take (dk d6) big >>= _) = _
  rw [bind_ok e9]
  show (m_law_copied t >>= _) = _
  rw [bind_ok (show m_law_copied t = .ok t from rfl)]
  have good_ok := place_good t good g0 g1
  have nostep : ∀ a b : Int, (a < 0 ∨ (t.1.length : Int) ≤ a ∨ b < 0 ∨ (t.1.length : Int) ≤ b) → ¬ ∃ l, Step t a b l := fun a b hh ⟨l, hs⟩ => by
    have := step_rg ht hs
    omega
  rw [bind_ok (loopM_all fun bad hbad => ?_)]
  · show (compS _ t.2 () >>= _) = _
    rw [bind_ok (compS_pure (fun y => some (sortT [y.a, y.b])) (by omega) fun y _ => rfl)]
    rw [List.filterMap_eq_map']
    show (chk (okR (t.1.length : Int)) >>= _) = _
    rw [chk_b (show okR (t.1.length : Int) from ⟨by omega, by omega⟩)]
    rw [bind_ok (loopM_all fun other ho => ?_)]
    · show (if t ≠ t then _ else _) = _
      rw [if_neg fun z => z rfl]
    · by_cases z : inD (sortT [good, other]) (t.2.map fun y => sortT [y.a, y.b])
      · rw [if_neg fun w => w z]
      · rw [if_pos z]
        show (m_law_asked t r good other 3 >>= _) = _
        rw [bind_ok (askP (by
          rw [if_neg (by decide), if_neg (by decide), if_neg (by decide), branch_bad t ht (by omega) R (good, other) (fun ⟨l, y, hy, hs, _⟩ => z ?_)]
          · rfl
          · refine List.mem_map.mpr ⟨y, hy, ?_⟩
            have hs : (y.a = good ∧ y.b = other) ∨ (y.a = other ∧ y.b = good) := hs
            rcases hs with ⟨h1, h2⟩ | ⟨h1, h2⟩
            · rw [h1, h2]
            · rw [h1, h2]
              exact sortT_eq (List.Perm.swap _ _ _))), if_neg (by decide +kernel)]
  · have hb : bad < 0 ∨ (t.1.length : Int) ≤ bad := by
      have hbad : bad ∈ [(-(1 : Int)) - far, (t.1.length : Int) + far] := hbad
      simp only [List.mem_cons, List.not_mem_nil, or_false] at hbad
      omega
    have pb := place_bad t bad hb
    rw [chk_b (by decide)]
    rw [bind_ok (loopM_all fun way hw => ?_)]
    · rw [bind_ok (loopM_all fun way hw => ?_)]
      · rw [bind_ok (loopM_all fun way hw => ?_)]
        have hw : way = 2 ∨ way = 3 := by simpa using hw
        show (m_law_asked t none05 bad good way >>= _) = _
        rw [bind_ok (askR (by
          rw [if_neg (by omega), if_neg (by omega)]
          by_cases z : way = 2
          · rw [if_pos z]
            unfold m_seat_worth
            rw [rule_none]
            rfl
          · rw [if_neg z]
            unfold m_branch_row
            rw [rule_none]
            rfl)), if_neg (by decide +kernel)]
      · have hw : way = 1 ∨ way = 3 := by simpa using hw
        show (m_law_asked t r good bad way >>= _) = _
        rw [bind_ok (askP (by
          rw [if_neg (by omega)]
          by_cases z : way = 1
          · rw [if_pos z]
            unfold m_way_between
            rw [bind_ok good_ok, pb]
            rfl
          · rw [if_neg z, if_neg (by omega), branch_bad t ht (by omega) R (good, bad) (nostep good bad (by omega))]
            rfl)), if_neg (by decide +kernel)]
    · have hw := rangeL_mem.mp hw
      show (m_law_asked t r bad good way >>= _) = _
      rw [bind_ok (askP (by
        by_cases z : way = 0
        · rw [if_pos z]
          unfold m_tied_to
          rw [pb]
          rfl
        rw [if_neg z]
        by_cases z : way = 1
        · rw [if_pos z]
          unfold m_way_between
          rw [pb]
          rfl
        rw [if_neg z]
        by_cases z : way = 2
        · rw [if_pos z]
          unfold m_seat_worth
          rw [bind_ok (rule_good R), pb]
          rfl
        rw [if_neg z, branch_bad t ht (by omega) R (bad, good) (nostep bad good (by omega))]
        rfl)), if_neg (by decide +kernel)]

theorem all_mk {P : Program} {w : World} {K : PySem.W.Frag} {h : Heap} {mg : Str → Option Value} {fa f1 f2 f3 f4 f5 f6 f7 f8 f9 f10 f11 f12 f13 f14 f15 f16 f17 f18 f19 f20 f21 f22 f23 f24 f25 f26 f27 f28 f29 C_NoPlace C_NoRule C_SeatError C_NoForm C_NoLength C_NoName C_NoOrder C_NoPaper C_NoText C_NoTie C_NoTree : Addr} {od1 an1 od2 an2 od3 an3 od4 an4 od5 an5 od6 an6 od7 an7 od8 an8 od9 an9 od10 an10 od11 an11 od12 an12 od13 an13 od14 an14 od15 an15 od16 an16 od17 an17 od18 an18 od19 an19 od20 an20 od21 an21 od22 an22 od23 an23 od24 an24 od25 an25 od26 an26 od27 an27 od28 an28 od29 an29 : Option Addr} {sl1 sl2 sl3 sl4 sl5 sl6 sl7 sl8 sl9 sl10 sl11 sl12 sl13 sl14 sl15 sl16 sl17 sl18 sl19 sl20 sl21 sl22 sl23 sl24 sl25 sl26 sl27 sl28 sl29 : Array (Option Value)} {oc1 kV1 dc1 pm1 cd1 ct1 oc2 kV2 dc2 pm2 cd2 ct2 oc3 kV3 dc3 pm3 cd3 ct3 oc4 kV4 dc4 pm4 cd4 ct4 oc5 kV5 dc5 pm5 cd5 ct5 oc6 kV6 dc6 pm6 cd6 ct6 oc7 kV7 dc7 pm7 cd7 ct7 oc8 kV8 dc8 pm8 cd8 ct8 oc9 kV9 dc9 pm9 cd9 ct9 oc10 kV10 dc10 pm10 cd10 ct10 oc11 kV11 dc11 pm11 cd11 ct11 oc12 kV12 dc12 pm12 cd12 ct12 oc13 kV13 dc13 pm13 cd13 ct13 oc14 kV14 dc14 pm14 cd14 ct14 oc15 kV15 dc15 pm15 cd15 ct15 oc16 kV16 dc16 pm16 cd16 ct16 oc17 kV17 dc17 pm17 cd17 ct17 oc18 kV18 dc18 pm18 cd18 ct18 oc19 kV19 dc19 pm19 cd19 ct19 oc20 kV20 dc20 pm20 cd20 ct20 oc21 kV21 dc21 pm21 cd21 ct21 oc22 kV22 dc22 pm22 cd22 ct22 oc23 kV23 dc23 pm23 cd23 ct23 oc24 kV24 dc24 pm24 cd24 ct24 oc25 kV25 dc25 pm25 cd25 ct25 oc26 kV26 dc26 pm26 cd26 ct26 oc27 kV27 dc27 pm27 cd27 ct27 oc28 kV28 dc28 pm28 cd28 ct28 oc29 kV29 dc29 pm29 cd29 ct29 : Value} {tk_MOST : Tok} (X : K.In h) (G : h.Ns mainGlobals mg) (hfa : mg "law" = some (.ref fa))
    (a1 : PySem.W.nsIn K mainGlobals "may_stand" = some (some (.ref f1))) (l1 : K.lookup f1 = some ⟨oc1, od1, .func (PySem.W.fnOf "may_stand" "may_stand" (defArgs s_may_stand) (defBody s_may_stand) (defScope s_may_stand) .none kV1 dc1 pm1 an1 cd1 ct1), sl1⟩) (c1 : PySem.W.codeIn K cd1 "may_stand" = true) (k1 : PySem.W.keepIn K (.ref f1) = true)
    (a2 : PySem.W.nsIn K mainGlobals "is_rule" = some (some (.ref f2))) (l2 : K.lookup f2 = some ⟨oc2, od2, .func (PySem.W.fnOf "is_rule" "is_rule" (defArgs s_is_rule) (defBody s_is_rule) (defScope s_is_rule) .none kV2 dc2 pm2 an2 cd2 ct2), sl2⟩) (c2 : PySem.W.codeIn K cd2 "is_rule" = true) (k2 : PySem.W.keepIn K (.ref f2) = true)
    (a3 : PySem.W.nsIn K mainGlobals "need_rule" = some (some (.ref f3))) (l3 : K.lookup f3 = some ⟨oc3, od3, .func (PySem.W.fnOf "need_rule" "need_rule" (defArgs s_need_rule) (defBody s_need_rule) (defScope s_need_rule) .none kV3 dc3 pm3 an3 cd3 ct3), sl3⟩) (c3 : PySem.W.codeIn K cd3 "need_rule" = true) (k3 : PySem.W.keepIn K (.ref f3) = true)
    (a4 : PySem.W.nsIn K mainGlobals "sum_at" = some (some (.ref f4))) (l4 : K.lookup f4 = some ⟨oc4, od4, .func (PySem.W.fnOf "sum_at" "sum_at" (defArgs s_sum_at) (defBody s_sum_at) (defScope s_sum_at) .none kV4 dc4 pm4 an4 cd4 ct4), sl4⟩) (c4 : PySem.W.codeIn K cd4 "sum_at" = true) (k4 : PySem.W.keepIn K (.ref f4) = true)
    (a5 : PySem.W.nsIn K mainGlobals "begun" = some (some (.ref f5))) (l5 : K.lookup f5 = some ⟨oc5, od5, .func (PySem.W.fnOf "begun" "begun" (defArgs s_begun) (defBody s_begun) (defScope s_begun) .none kV5 dc5 pm5 an5 cd5 ct5), sl5⟩) (c5 : PySem.W.codeIn K cd5 "begun" = true) (k5 : PySem.W.keepIn K (.ref f5) = true)
    (a6 : PySem.W.nsIn K mainGlobals "joined" = some (some (.ref f6))) (l6 : K.lookup f6 = some ⟨oc6, od6, .func (PySem.W.fnOf "joined" "joined" (defArgs s_joined) (defBody s_joined) (defScope s_joined) .none kV6 dc6 pm6 an6 cd6 ct6), sl6⟩) (c6 : PySem.W.codeIn K cd6 "joined" = true) (k6 : PySem.W.keepIn K (.ref f6) = true)
    (a7 : PySem.W.nsIn K mainGlobals "over_tie" = some (some (.ref f7))) (l7 : K.lookup f7 = some ⟨oc7, od7, .func (PySem.W.fnOf "over_tie" "over_tie" (defArgs s_over_tie) (defBody s_over_tie) (defScope s_over_tie) .none kV7 dc7 pm7 an7 cd7 ct7), sl7⟩) (c7 : PySem.W.codeIn K cd7 "over_tie" = true) (k7 : PySem.W.keepIn K (.ref f7) = true)
    (a8 : PySem.W.nsIn K mainGlobals "told_by" = some (some (.ref f8))) (l8 : K.lookup f8 = some ⟨oc8, od8, .func (PySem.W.fnOf "told_by" "told_by" (defArgs s_told_by) (defBody s_told_by) (defScope s_told_by) .none kV8 dc8 pm8 an8 cd8 ct8), sl8⟩) (c8 : PySem.W.codeIn K cd8 "told_by" = true) (k8 : PySem.W.keepIn K (.ref f8) = true)
    (a9 : PySem.W.nsIn K mainGlobals "tied_places" = some (some (.ref f9))) (l9 : K.lookup f9 = some ⟨oc9, od9, .func (PySem.W.fnOf "tied_places" "tied_places" (defArgs s_tied_places) (defBody s_tied_places) (defScope s_tied_places) .none kV9 dc9 pm9 an9 cd9 ct9), sl9⟩) (c9 : PySem.W.codeIn K cd9 "tied_places" = true) (k9 : PySem.W.keepIn K (.ref f9) = true)
    (a10 : PySem.W.nsIn K mainGlobals "need_place" = some (some (.ref f10))) (l10 : K.lookup f10 = some ⟨oc10, od10, .func (PySem.W.fnOf "need_place" "need_place" (defArgs s_need_place) (defBody s_need_place) (defScope s_need_place) .none kV10 dc10 pm10 an10 cd10 ct10), sl10⟩) (c10 : PySem.W.codeIn K cd10 "need_place" = true) (k10 : PySem.W.keepIn K (.ref f10) = true)
    (a11 : PySem.W.nsIn K mainGlobals "lengths_of" = some (some (.ref f11))) (l11 : K.lookup f11 = some ⟨oc11, od11, .func (PySem.W.fnOf "lengths_of" "lengths_of" (defArgs s_lengths_of) (defBody s_lengths_of) (defScope s_lengths_of) .none kV11 dc11 pm11 an11 cd11 ct11), sl11⟩) (c11 : PySem.W.codeIn K cd11 "lengths_of" = true) (k11 : PySem.W.keepIn K (.ref f11) = true)
    (a12 : PySem.W.nsIn K mainGlobals "tied_to" = some (some (.ref f12))) (l12 : K.lookup f12 = some ⟨oc12, od12, .func (PySem.W.fnOf "tied_to" "tied_to" (defArgs s_tied_to) (defBody s_tied_to) (defScope s_tied_to) .none kV12 dc12 pm12 an12 cd12 ct12), sl12⟩) (c12 : PySem.W.codeIn K cd12 "tied_to" = true) (k12 : PySem.W.keepIn K (.ref f12) = true)
    (a13 : PySem.W.nsIn K mainGlobals "way_between" = some (some (.ref f13))) (l13 : K.lookup f13 = some ⟨oc13, od13, .func (PySem.W.fnOf "way_between" "way_between" (defArgs s_way_between) (defBody s_way_between) (defScope s_way_between) .none kV13 dc13 pm13 an13 cd13 ct13), sl13⟩) (c13 : PySem.W.codeIn K cd13 "way_between" = true) (k13 : PySem.W.keepIn K (.ref f13) = true)
    (a14 : PySem.W.nsIn K mainGlobals "row_with" = some (some (.ref f14))) (l14 : K.lookup f14 = some ⟨oc14, od14, .func (PySem.W.fnOf "row_with" "row_with" (defArgs s_row_with) (defBody s_row_with) (defScope s_row_with) .none kV14 dc14 pm14 an14 cd14 ct14), sl14⟩) (c14 : PySem.W.codeIn K cd14 "row_with" = true) (k14 : PySem.W.keepIn K (.ref f14) = true)
    (a15 : PySem.W.nsIn K mainGlobals "row_down" = some (some (.ref f15))) (l15 : K.lookup f15 = some ⟨oc15, od15, .func (PySem.W.fnOf "row_down" "row_down" (defArgs s_row_down) (defBody s_row_down) (defScope s_row_down) .none kV15 dc15 pm15 an15 cd15 ct15), sl15⟩) (c15 : PySem.W.codeIn K cd15 "row_down" = true) (k15 : PySem.W.keepIn K (.ref f15) = true)
    (a16 : PySem.W.nsIn K mainGlobals "branch_row" = some (some (.ref f16))) (l16 : K.lookup f16 = some ⟨oc16, od16, .func (PySem.W.fnOf "branch_row" "branch_row" (defArgs s_branch_row) (defBody s_branch_row) (defScope s_branch_row) .none kV16 dc16 pm16 an16 cd16 ct16), sl16⟩) (c16 : PySem.W.codeIn K cd16 "branch_row" = true) (k16 : PySem.W.keepIn K (.ref f16) = true)
    (a17 : PySem.W.nsIn K mainGlobals "seat_worth" = some (some (.ref f17))) (l17 : K.lookup f17 = some ⟨oc17, od17, .func (PySem.W.fnOf "seat_worth" "seat_worth" (defArgs s_seat_worth) (defBody s_seat_worth) (defScope s_seat_worth) .none kV17 dc17 pm17 an17 cd17 ct17), sl17⟩) (c17 : PySem.W.codeIn K cd17 "seat_worth" = true) (k17 : PySem.W.keepIn K (.ref f17) = true)
    (a18 : PySem.W.nsIn K mainGlobals "_law_stir" = some (some (.ref f18))) (l18 : K.lookup f18 = some ⟨oc18, od18, .func (PySem.W.fnOf "_law_stir" "_law_stir" (defArgs s_law_stir) (defBody s_law_stir) (defScope s_law_stir) .none kV18 dc18 pm18 an18 cd18 ct18), sl18⟩) (c18 : PySem.W.codeIn K cd18 "_law_stir" = true) (k18 : PySem.W.keepIn K (.ref f18) = true)
    (a19 : PySem.W.nsIn K mainGlobals "_law_deck" = some (some (.ref f19))) (l19 : K.lookup f19 = some ⟨oc19, od19, .func (PySem.W.fnOf "_law_deck" "_law_deck" (defArgs s_law_deck) (defBody s_law_deck) (defScope s_law_deck) .none kV19 dc19 pm19 an19 cd19 ct19), sl19⟩) (c19 : PySem.W.codeIn K cd19 "_law_deck" = true) (k19 : PySem.W.keepIn K (.ref f19) = true)
    (a20 : PySem.W.nsIn K mainGlobals "_law_take" = some (some (.ref f20))) (l20 : K.lookup f20 = some ⟨oc20, od20, .func (PySem.W.fnOf "_law_take" "_law_take" (defArgs s_law_take) (defBody s_law_take) (defScope s_law_take) .none kV20 dc20 pm20 an20 cd20 ct20), sl20⟩) (c20 : PySem.W.codeIn K cd20 "_law_take" = true) (k20 : PySem.W.keepIn K (.ref f20) = true)
    (a21 : PySem.W.nsIn K mainGlobals "_law_number" = some (some (.ref f21))) (l21 : K.lookup f21 = some ⟨oc21, od21, .func (PySem.W.fnOf "_law_number" "_law_number" (defArgs s_law_number) (defBody s_law_number) (defScope s_law_number) .none kV21 dc21 pm21 an21 cd21 ct21), sl21⟩) (c21 : PySem.W.codeIn K cd21 "_law_number" = true) (k21 : PySem.W.keepIn K (.ref f21) = true)
    (a22 : PySem.W.nsIn K mainGlobals "_law_order" = some (some (.ref f22))) (l22 : K.lookup f22 = some ⟨oc22, od22, .func (PySem.W.fnOf "_law_order" "_law_order" (defArgs s_law_order) (defBody s_law_order) (defScope s_law_order) .none kV22 dc22 pm22 an22 cd22 ct22), sl22⟩) (c22 : PySem.W.codeIn K cd22 "_law_order" = true) (k22 : PySem.W.keepIn K (.ref f22) = true)
    (a23 : PySem.W.nsIn K mainGlobals "_law_tree" = some (some (.ref f23))) (l23 : K.lookup f23 = some ⟨oc23, od23, .func (PySem.W.fnOf "_law_tree" "_law_tree" (defArgs s_law_tree) (defBody s_law_tree) (defScope s_law_tree) .none kV23 dc23 pm23 an23 cd23 ct23), sl23⟩) (c23 : PySem.W.codeIn K cd23 "_law_tree" = true) (k23 : PySem.W.keepIn K (.ref f23) = true)
    (a24 : PySem.W.nsIn K mainGlobals "_law_copied" = some (some (.ref f24))) (l24 : K.lookup f24 = some ⟨oc24, od24, .func (PySem.W.fnOf "_law_copied" "_law_copied" (defArgs s_law_copied) (defBody s_law_copied) (defScope s_law_copied) .none kV24 dc24 pm24 an24 cd24 ct24), sl24⟩) (c24 : PySem.W.codeIn K cd24 "_law_copied" = true) (k24 : PySem.W.keepIn K (.ref f24) = true)
    (a25 : PySem.W.nsIn K mainGlobals "_law_leaf" = some (some (.ref f25))) (l25 : K.lookup f25 = some ⟨oc25, od25, .func (PySem.W.fnOf "_law_leaf" "_law_leaf" (defArgs s_law_leaf) (defBody s_law_leaf) (defScope s_law_leaf) .none kV25 dc25 pm25 an25 cd25 ct25), sl25⟩) (c25 : PySem.W.codeIn K cd25 "_law_leaf" = true) (k25 : PySem.W.keepIn K (.ref f25) = true)
    (a26 : PySem.W.nsIn K mainGlobals "_law_sum" = some (some (.ref f26))) (l26 : K.lookup f26 = some ⟨oc26, od26, .func (PySem.W.fnOf "_law_sum" "_law_sum" (defArgs s_law_sum) (defBody s_law_sum) (defScope s_law_sum) .none kV26 dc26 pm26 an26 cd26 ct26), sl26⟩) (c26 : PySem.W.codeIn K cd26 "_law_sum" = true) (k26 : PySem.W.keepIn K (.ref f26) = true)
    (a27 : PySem.W.nsIn K mainGlobals "_law_rule" = some (some (.ref f27))) (l27 : K.lookup f27 = some ⟨oc27, od27, .func (PySem.W.fnOf "_law_rule" "_law_rule" (defArgs s_law_rule) (defBody s_law_rule) (defScope s_law_rule) .none kV27 dc27 pm27 an27 cd27 ct27), sl27⟩) (c27 : PySem.W.codeIn K cd27 "_law_rule" = true) (k27 : PySem.W.keepIn K (.ref f27) = true)
    (a28 : PySem.W.nsIn K mainGlobals "_law_asked" = some (some (.ref f28))) (l28 : K.lookup f28 = some ⟨oc28, od28, .func (PySem.W.fnOf "_law_asked" "_law_asked" (defArgs s_law_asked) (defBody s_law_asked) (defScope s_law_asked) .none kV28 dc28 pm28 an28 cd28 ct28), sl28⟩) (c28 : PySem.W.codeIn K cd28 "_law_asked" = true) (k28 : PySem.W.keepIn K (.ref f28) = true)
    (a29 : PySem.W.nsIn K mainGlobals "law" = some (some (.ref f29))) (l29 : K.lookup f29 = some ⟨oc29, od29, .func (PySem.W.fnOf "law" "law" (defArgs s_law) (defBody s_law) (defScope s_law) .none kV29 dc29 pm29 an29 cd29 ct29), sl29⟩) (c29 : PySem.W.codeIn K cd29 "law" = true) (k29 : PySem.W.keepIn K (.ref f29) = true)
    (ga_NoPlace : PySem.W.nsIn K mainGlobals "NoPlace" = some (some (.ref C_NoPlace))) (gx_NoPlace : PySem.W.excIn K C_NoPlace [.type "ValueError", .type "Exception", .type "BaseException", .type "object"] "ValueError.__new__" = true) (gk_NoPlace : PySem.W.keepIn K (.ref C_NoPlace) = true) (gb_NoPlace : PySem.W.subIn K (.ref C_NoPlace) (.type "BaseException") = some true) (gt_NoPlace : PySem.W.typeIn K (.ref C_NoPlace) = some (.type "type"))
    (ga_NoRule : PySem.W.nsIn K mainGlobals "NoRule" = some (some (.ref C_NoRule))) (gx_NoRule : PySem.W.excIn K C_NoRule [.type "ValueError", .type "Exception", .type "BaseException", .type "object"] "ValueError.__new__" = true) (gk_NoRule : PySem.W.keepIn K (.ref C_NoRule) = true) (gb_NoRule : PySem.W.subIn K (.ref C_NoRule) (.type "BaseException") = some true) (gt_NoRule : PySem.W.typeIn K (.ref C_NoRule) = some (.type "type"))
    (ga_SeatError : PySem.W.nsIn K mainGlobals "SeatError" = some (some (.ref C_SeatError)))
    (xd_SeatError : PySem.W.hasDictIn K C_SeatError = true)
    (xt_SeatError : PySem.W.typeIn K (.ref C_SeatError) = some (.type "type"))
    (xn_SeatError : PySem.W.subIn K (.type "NoneType") (.ref C_SeatError) = some false)
    (xb_SeatError : PySem.W.subIn K (.ref C_SeatError) (.type "BaseException") = some true)
    (xs_SeatError_SeatError : PySem.W.subIn K (.ref C_SeatError) (.ref C_SeatError) = some true)
    (xd_NoPlace : PySem.W.hasDictIn K C_NoPlace = true)
    (xt_NoPlace : PySem.W.typeIn K (.ref C_NoPlace) = some (.type "type"))
    (xn_NoPlace : PySem.W.subIn K (.type "NoneType") (.ref C_NoPlace) = some false)
    (xb_NoPlace : PySem.W.subIn K (.ref C_NoPlace) (.type "BaseException") = some true)
    (xs_NoPlace_NoPlace : PySem.W.subIn K (.ref C_NoPlace) (.ref C_NoPlace) = some true)
    (xd_NoRule : PySem.W.hasDictIn K C_NoRule = true)
    (xt_NoRule : PySem.W.typeIn K (.ref C_NoRule) = some (.type "type"))
    (xn_NoRule : PySem.W.subIn K (.type "NoneType") (.ref C_NoRule) = some false)
    (xb_NoRule : PySem.W.subIn K (.ref C_NoRule) (.type "BaseException") = some true)
    (xs_NoRule_NoRule : PySem.W.subIn K (.ref C_NoRule) (.ref C_NoRule) = some true)
    (ga_NoForm : PySem.W.nsIn K mainGlobals "NoForm" = some (some (.ref C_NoForm)))
    (xd_NoForm : PySem.W.hasDictIn K C_NoForm = true)
    (xt_NoForm : PySem.W.typeIn K (.ref C_NoForm) = some (.type "type"))
    (xn_NoForm : PySem.W.subIn K (.type "NoneType") (.ref C_NoForm) = some false)
    (xb_NoForm : PySem.W.subIn K (.ref C_NoForm) (.type "BaseException") = some true)
    (xs_NoForm_NoForm : PySem.W.subIn K (.ref C_NoForm) (.ref C_NoForm) = some true)
    (ga_NoLength : PySem.W.nsIn K mainGlobals "NoLength" = some (some (.ref C_NoLength)))
    (xd_NoLength : PySem.W.hasDictIn K C_NoLength = true)
    (xt_NoLength : PySem.W.typeIn K (.ref C_NoLength) = some (.type "type"))
    (xn_NoLength : PySem.W.subIn K (.type "NoneType") (.ref C_NoLength) = some false)
    (xb_NoLength : PySem.W.subIn K (.ref C_NoLength) (.type "BaseException") = some true)
    (xs_NoLength_NoLength : PySem.W.subIn K (.ref C_NoLength) (.ref C_NoLength) = some true)
    (ga_NoName : PySem.W.nsIn K mainGlobals "NoName" = some (some (.ref C_NoName)))
    (xd_NoName : PySem.W.hasDictIn K C_NoName = true)
    (xt_NoName : PySem.W.typeIn K (.ref C_NoName) = some (.type "type"))
    (xn_NoName : PySem.W.subIn K (.type "NoneType") (.ref C_NoName) = some false)
    (xb_NoName : PySem.W.subIn K (.ref C_NoName) (.type "BaseException") = some true)
    (xs_NoName_NoName : PySem.W.subIn K (.ref C_NoName) (.ref C_NoName) = some true)
    (ga_NoOrder : PySem.W.nsIn K mainGlobals "NoOrder" = some (some (.ref C_NoOrder)))
    (xd_NoOrder : PySem.W.hasDictIn K C_NoOrder = true)
    (xt_NoOrder : PySem.W.typeIn K (.ref C_NoOrder) = some (.type "type"))
    (xn_NoOrder : PySem.W.subIn K (.type "NoneType") (.ref C_NoOrder) = some false)
    (xb_NoOrder : PySem.W.subIn K (.ref C_NoOrder) (.type "BaseException") = some true)
    (xs_NoOrder_NoOrder : PySem.W.subIn K (.ref C_NoOrder) (.ref C_NoOrder) = some true)
    (ga_NoPaper : PySem.W.nsIn K mainGlobals "NoPaper" = some (some (.ref C_NoPaper)))
    (xd_NoPaper : PySem.W.hasDictIn K C_NoPaper = true)
    (xt_NoPaper : PySem.W.typeIn K (.ref C_NoPaper) = some (.type "type"))
    (xn_NoPaper : PySem.W.subIn K (.type "NoneType") (.ref C_NoPaper) = some false)
    (xb_NoPaper : PySem.W.subIn K (.ref C_NoPaper) (.type "BaseException") = some true)
    (xs_NoPaper_NoPaper : PySem.W.subIn K (.ref C_NoPaper) (.ref C_NoPaper) = some true)
    (ga_NoText : PySem.W.nsIn K mainGlobals "NoText" = some (some (.ref C_NoText)))
    (xd_NoText : PySem.W.hasDictIn K C_NoText = true)
    (xt_NoText : PySem.W.typeIn K (.ref C_NoText) = some (.type "type"))
    (xn_NoText : PySem.W.subIn K (.type "NoneType") (.ref C_NoText) = some false)
    (xb_NoText : PySem.W.subIn K (.ref C_NoText) (.type "BaseException") = some true)
    (xs_NoText_NoText : PySem.W.subIn K (.ref C_NoText) (.ref C_NoText) = some true)
    (ga_NoTie : PySem.W.nsIn K mainGlobals "NoTie" = some (some (.ref C_NoTie)))
    (xd_NoTie : PySem.W.hasDictIn K C_NoTie = true)
    (xt_NoTie : PySem.W.typeIn K (.ref C_NoTie) = some (.type "type"))
    (xn_NoTie : PySem.W.subIn K (.type "NoneType") (.ref C_NoTie) = some false)
    (xb_NoTie : PySem.W.subIn K (.ref C_NoTie) (.type "BaseException") = some true)
    (xs_NoTie_NoTie : PySem.W.subIn K (.ref C_NoTie) (.ref C_NoTie) = some true)
    (ga_NoTree : PySem.W.nsIn K mainGlobals "NoTree" = some (some (.ref C_NoTree)))
    (xd_NoTree : PySem.W.hasDictIn K C_NoTree = true)
    (xt_NoTree : PySem.W.typeIn K (.ref C_NoTree) = some (.type "type"))
    (xn_NoTree : PySem.W.subIn K (.type "NoneType") (.ref C_NoTree) = some false)
    (xb_NoTree : PySem.W.subIn K (.ref C_NoTree) (.type "BaseException") = some true)
    (xs_NoTree_NoTree : PySem.W.subIn K (.ref C_NoTree) (.ref C_NoTree) = some true)
    (xg_NoPlace : PySem.W.findIn K (.ref C_NoPlace) "__getattribute__" = some (some (.builtin "BaseException.__getattribute__")))
    (xk_NoPlace : PySem.W.findIn K (.ref C_NoPlace) "__getattr__" = some none)
    (xc_NoPlace : PySem.W.findIn K (.ref C_NoPlace) "__class__" = some (some (.builtin "object.__class__")))
    (xm_NoPlace : PySem.W.mroIn K C_NoPlace (.type "object") = some true)
    (xv_NoPlace : PySem.W.subIn K (.ref C_NoPlace) (.type "ValueError") = some true)
    (xs_NoPlace_SeatError : PySem.W.subIn K (.ref C_NoPlace) (.ref C_SeatError) = some true)
    (xs_NoPlace_NoRule : PySem.W.subIn K (.ref C_NoPlace) (.ref C_NoRule) = some false)
    (xs_NoPlace_NoForm : PySem.W.subIn K (.ref C_NoPlace) (.ref C_NoForm) = some false)
    (xs_NoPlace_NoLength : PySem.W.subIn K (.ref C_NoPlace) (.ref C_NoLength) = some false)
    (xs_NoPlace_NoName : PySem.W.subIn K (.ref C_NoPlace) (.ref C_NoName) = some false)
    (xs_NoPlace_NoOrder : PySem.W.subIn K (.ref C_NoPlace) (.ref C_NoOrder) = some false)
    (xs_NoPlace_NoPaper : PySem.W.subIn K (.ref C_NoPlace) (.ref C_NoPaper) = some false)
    (xs_NoPlace_NoText : PySem.W.subIn K (.ref C_NoPlace) (.ref C_NoText) = some false)
    (xs_NoPlace_NoTie : PySem.W.subIn K (.ref C_NoPlace) (.ref C_NoTie) = some false)
    (xs_NoPlace_NoTree : PySem.W.subIn K (.ref C_NoPlace) (.ref C_NoTree) = some false)
    (xg_NoRule : PySem.W.findIn K (.ref C_NoRule) "__getattribute__" = some (some (.builtin "BaseException.__getattribute__")))
    (xk_NoRule : PySem.W.findIn K (.ref C_NoRule) "__getattr__" = some none)
    (xc_NoRule : PySem.W.findIn K (.ref C_NoRule) "__class__" = some (some (.builtin "object.__class__")))
    (xm_NoRule : PySem.W.mroIn K C_NoRule (.type "object") = some true)
    (xv_NoRule : PySem.W.subIn K (.ref C_NoRule) (.type "ValueError") = some true)
    (xs_NoRule_SeatError : PySem.W.subIn K (.ref C_NoRule) (.ref C_SeatError) = some true)
    (xs_NoRule_NoPlace : PySem.W.subIn K (.ref C_NoRule) (.ref C_NoPlace) = some false)
    (xs_NoRule_NoForm : PySem.W.subIn K (.ref C_NoRule) (.ref C_NoForm) = some false)
    (xs_NoRule_NoLength : PySem.W.subIn K (.ref C_NoRule) (.ref C_NoLength) = some false)
    (xs_NoRule_NoName : PySem.W.subIn K (.ref C_NoRule) (.ref C_NoName) = some false)
    (xs_NoRule_NoOrder : PySem.W.subIn K (.ref C_NoRule) (.ref C_NoOrder) = some false)
    (xs_NoRule_NoPaper : PySem.W.subIn K (.ref C_NoRule) (.ref C_NoPaper) = some false)
    (xs_NoRule_NoText : PySem.W.subIn K (.ref C_NoRule) (.ref C_NoText) = some false)
    (xs_NoRule_NoTie : PySem.W.subIn K (.ref C_NoRule) (.ref C_NoTie) = some false)
    (xs_NoRule_NoTree : PySem.W.subIn K (.ref C_NoRule) (.ref C_NoTree) = some false)
    (xh1 : PySem.W.specialIn K (.builtin "object.__class__") "__get__" = some (some (.builtin "getset_descriptor.__get__")))
    (xh2 : PySem.W.takesIn K (.builtin "object.__class__") = some true)
    (zc_MOST : PySem.W.nsIn K mainGlobals "MOST" = some (some (.int 3 tk_MOST)))
    (z_ValueError : PySem.W.nsIn K mainGlobals "ValueError" = some none)
    (z_isinstance : PySem.W.nsIn K mainGlobals "isinstance" = some none)
    (z_len : PySem.W.nsIn K mainGlobals "len" = some none)
    (z_list : PySem.W.nsIn K mainGlobals "list" = some none)
    (z_max : PySem.W.nsIn K mainGlobals "max" = some none)
    (z_min : PySem.W.nsIn K mainGlobals "min" = some none)
    (z_range : PySem.W.nsIn K mainGlobals "range" = some none)
    (z_sorted : PySem.W.nsIn K mainGlobals "sorted" = some none) :
    ∃ fd : FuncData, (∀ (s : Shared) (v : Value), BindsTo s fd ⟨[v], []⟩ [("script", v)]) ∧ ∀ base : Heap, K.In base → base.Ns mainGlobals mg → FnOk P w K mg base (L2.CX P w) 79 fa fd ["script"] (sp_law K) := by
  have e := hfa.symm.trans (PySem.W.mg_of X G a29)
  cases e
  have nb : Nb mg := ⟨PySem.W.mg_none_of X G z_ValueError, PySem.W.mg_none_of X G z_isinstance, PySem.W.mg_none_of X G z_len, PySem.W.mg_none_of X G z_list, PySem.W.mg_none_of X G z_max, PySem.W.mg_none_of X G z_min, PySem.W.mg_none_of X G z_range, PySem.W.mg_none_of X G z_sorted, ⟨_, PySem.W.mg_of X G zc_MOST, ⟨_, rfl⟩⟩⟩
  have E_NoPlace : ∃ C, Xc K mg "NoPlace" C := ⟨C_NoPlace, PySem.W.mg_of X G ga_NoPlace, gx_NoPlace, gk_NoPlace, gb_NoPlace, gt_NoPlace⟩
  have E_NoRule : ∃ C, Xc K mg "NoRule" C := ⟨C_NoRule, PySem.W.mg_of X G ga_NoRule, gx_NoRule, gk_NoRule, gb_NoRule, gt_NoRule⟩
  have EX : ExAll K mg := ⟨C_SeatError, C_NoPlace, C_NoRule, C_NoForm, C_NoLength, C_NoName, C_NoOrder, C_NoPaper, C_NoText, C_NoTie, C_NoTree, PySem.W.mg_of X G ga_SeatError, xd_SeatError, xt_SeatError, xn_SeatError, xb_SeatError, xs_SeatError_SeatError, PySem.W.mg_of X G ga_NoPlace, xd_NoPlace, xt_NoPlace, xn_NoPlace, xb_NoPlace, xs_NoPlace_NoPlace, PySem.W.mg_of X G ga_NoRule, xd_NoRule, xt_NoRule, xn_NoRule, xb_NoRule, xs_NoRule_NoRule, PySem.W.mg_of X G ga_NoForm, xd_NoForm, xt_NoForm, xn_NoForm, xb_NoForm, xs_NoForm_NoForm, PySem.W.mg_of X G ga_NoLength, xd_NoLength, xt_NoLength, xn_NoLength, xb_NoLength, xs_NoLength_NoLength, PySem.W.mg_of X G ga_NoName, xd_NoName, xt_NoName, xn_NoName, xb_NoName, xs_NoName_NoName, PySem.W.mg_of X G ga_NoOrder, xd_NoOrder, xt_NoOrder, xn_NoOrder, xb_NoOrder, xs_NoOrder_NoOrder, PySem.W.mg_of X G ga_NoPaper, xd_NoPaper, xt_NoPaper, xn_NoPaper, xb_NoPaper, xs_NoPaper_NoPaper, PySem.W.mg_of X G ga_NoText, xd_NoText, xt_NoText, xn_NoText, xb_NoText, xs_NoText_NoText, PySem.W.mg_of X G ga_NoTie, xd_NoTie, xt_NoTie, xn_NoTie, xb_NoTie, xs_NoTie_NoTie, PySem.W.mg_of X G ga_NoTree, xd_NoTree, xt_NoTree, xn_NoTree, xb_NoTree, xs_NoTree_NoTree, ⟨xg_NoPlace, xk_NoPlace, xb_NoPlace, xd_NoPlace, xc_NoPlace, xh1, xh2, xm_NoPlace⟩, xv_NoPlace, xs_NoPlace_SeatError, xs_NoPlace_NoRule, xs_NoPlace_NoForm, xs_NoPlace_NoLength, xs_NoPlace_NoName, xs_NoPlace_NoOrder, xs_NoPlace_NoPaper, xs_NoPlace_NoText, xs_NoPlace_NoTie, xs_NoPlace_NoTree, ⟨xg_NoRule, xk_NoRule, xb_NoRule, xd_NoRule, xc_NoRule, xh1, xh2, xm_NoRule⟩, xv_NoRule, xs_NoRule_SeatError, xs_NoRule_NoPlace, xs_NoRule_NoForm, xs_NoRule_NoLength, xs_NoRule_NoName, xs_NoRule_NoOrder, xs_NoRule_NoPaper, xs_NoRule_NoText, xs_NoRule_NoTie, xs_NoRule_NoTree⟩
  have F1 := fun_mk (x := "may_stand") (st := s_may_stand) l1 c1 k1
  have D_may_stand : Df K mg "may_stand" "may_stand" s_may_stand ["told", "leaves", "many"] := ⟨_, _, F1, PySem.W.mg_of X G a1, F1.binds (ps := ["told", "leaves", "many"]) fun _ _ _ _ _ _ us hl => match us, hl with | [_, _, _], _ => rfl⟩
  have F2 := fun_mk (x := "is_rule") (st := s_is_rule) l2 c2 k2
  have D_is_rule : Df K mg "is_rule" "is_rule" s_is_rule ["thing"] := ⟨_, _, F2, PySem.W.mg_of X G a2, F2.binds (ps := ["thing"]) fun _ _ _ _ _ _ us hl => match us, hl with | [_], _ => rfl⟩
  have F3 := fun_mk (x := "need_rule") (st := s_need_rule) l3 c3 k3
  have D_need_rule : Df K mg "need_rule" "need_rule" s_need_rule ["rule"] := ⟨_, _, F3, PySem.W.mg_of X G a3, F3.binds (ps := ["rule"]) fun _ _ _ _ _ _ us hl => match us, hl with | [_], _ => rfl⟩
  have F4 := fun_mk (x := "sum_at") (st := s_sum_at) l4 c4 k4
  have D_sum_at : Df K mg "sum_at" "sum_at" s_sum_at ["sum_told", "own", "tie", "so", "more"] := ⟨_, _, F4, PySem.W.mg_of X G a4, F4.binds (ps := ["sum_told", "own", "tie", "so", "more"]) fun _ _ _ _ _ _ us hl => match us, hl with | [_, _, _, _, _], _ => rfl⟩
  have F5 := fun_mk (x := "begun") (st := s_begun) l5 c5 k5
  have D_begun : Df K mg "begun" "begun" s_begun ["rule", "own"] := ⟨_, _, F5, PySem.W.mg_of X G a5, F5.binds (ps := ["rule", "own"]) fun _ _ _ _ _ _ us hl => match us, hl with | [_, _], _ => rfl⟩
  have F6 := fun_mk (x := "joined") (st := s_joined) l6 c6 k6
  have D_joined : Df K mg "joined" "joined" s_joined ["rule", "so", "more", "own"] := ⟨_, _, F6, PySem.W.mg_of X G a6, F6.binds (ps := ["rule", "so", "more", "own"]) fun _ _ _ _ _ _ us hl => match us, hl with | [_, _, _, _], _ => rfl⟩
  have F7 := fun_mk (x := "over_tie") (st := s_over_tie) l7 c7 k7
  have D_over_tie : Df K mg "over_tie" "over_tie" s_over_tie ["rule", "more", "own", "tie"] := ⟨_, _, F7, PySem.W.mg_of X G a7, F7.binds (ps := ["rule", "more", "own", "tie"]) fun _ _ _ _ _ _ us hl => match us, hl with | [_, _, _, _], _ => rfl⟩
  have F8 := fun_mk (x := "told_by") (st := s_told_by) l8 c8 k8
  have D_told_by : Df K mg "told_by" "told_by" s_told_by ["rule", "so", "own"] := ⟨_, _, F8, PySem.W.mg_of X G a8, F8.binds (ps := ["rule", "so", "own"]) fun _ _ _ _ _ _ us hl => match us, hl with | [_, _, _], _ => rfl⟩
  have F9 := fun_mk (x := "tied_places") (st := s_tied_places) l9 c9 k9
  have D_tied_places : Df K mg "tied_places" "tied_places" s_tied_places ["many", "ties"] := ⟨_, _, F9, PySem.W.mg_of X G a9, F9.binds (ps := ["many", "ties"]) fun _ _ _ _ _ _ us hl => match us, hl with | [_, _], _ => rfl⟩
  have F10 := fun_mk (x := "need_place") (st := s_need_place) l10 c10 k10
  have D_need_place : Df K mg "need_place" "need_place" s_need_place ["tree", "place"] := ⟨_, _, F10, PySem.W.mg_of X G a10, F10.binds (ps := ["tree", "place"]) fun _ _ _ _ _ _ us hl => match us, hl with | [_, _], _ => rfl⟩
  have F11 := fun_mk (x := "lengths_of") (st := s_lengths_of) l11 c11 k11
  have D_lengths_of : Df K mg "lengths_of" "lengths_of" s_lengths_of ["tree"] := ⟨_, _, F11, PySem.W.mg_of X G a11, F11.binds (ps := ["tree"]) fun _ _ _ _ _ _ us hl => match us, hl with | [_], _ => rfl⟩
  have F12 := fun_mk (x := "tied_to") (st := s_tied_to) l12 c12 k12
  have D_tied_to : Df K mg "tied_to" "tied_to" s_tied_to ["tree", "place"] := ⟨_, _, F12, PySem.W.mg_of X G a12, F12.binds (ps := ["tree", "place"]) fun _ _ _ _ _ _ us hl => match us, hl with | [_, _], _ => rfl⟩
  have F13 := fun_mk (x := "way_between") (st := s_way_between) l13 c13 k13
  have D_way_between : Df K mg "way_between" "way_between" s_way_between ["tree", "one", "other"] := ⟨_, _, F13, PySem.W.mg_of X G a13, F13.binds (ps := ["tree", "one", "other"]) fun _ _ _ _ _ _ us hl => match us, hl with | [_, _, _], _ => rfl⟩
  have F14 := fun_mk (x := "row_with") (st := s_row_with) l14 c14 k14
  have D_row_with : Df K mg "row_with" "row_with" s_row_with ["tree", "rule", "place", "near"] := ⟨_, _, F14, PySem.W.mg_of X G a14, F14.binds (ps := ["tree", "rule", "place", "near"]) fun _ _ _ _ _ _ us hl => match us, hl with | [_, _, _, _], _ => rfl⟩
  have F15 := fun_mk (x := "row_down") (st := s_row_down) l15 c15 k15
  have D_row_down : Df K mg "row_down" "row_down" s_row_down ["tree", "rule", "near", "lengths", "branch"] := ⟨_, _, F15, PySem.W.mg_of X G a15, F15.binds (ps := ["tree", "rule", "near", "lengths", "branch"]) fun _ _ _ _ _ _ us hl => match us, hl with | [_, _, _, _, _], _ => rfl⟩
  have F16 := fun_mk (x := "branch_row") (st := s_branch_row) l16 c16 k16
  have D_branch_row : Df K mg "branch_row" "branch_row" s_branch_row ["tree", "rule", "branch"] := ⟨_, _, F16, PySem.W.mg_of X G a16, F16.binds (ps := ["tree", "rule", "branch"]) fun _ _ _ _ _ _ us hl => match us, hl with | [_, _, _], _ => rfl⟩
  have F17 := fun_mk (x := "seat_worth") (st := s_seat_worth) l17 c17 k17
  have D_seat_worth : Df K mg "seat_worth" "seat_worth" s_seat_worth ["tree", "rule", "place"] := ⟨_, _, F17, PySem.W.mg_of X G a17, F17.binds (ps := ["tree", "rule", "place"]) fun _ _ _ _ _ _ us hl => match us, hl with | [_, _, _], _ => rfl⟩
  have F18 := fun_mk (x := "_law_stir") (st := s_law_stir) l18 c18 k18
  have D_law_stir : Df K mg "_law_stir" "_law_stir" s_law_stir ["cell", "k"] := ⟨_, _, F18, PySem.W.mg_of X G a18, F18.binds (ps := ["cell", "k"]) fun _ _ _ _ _ _ us hl => match us, hl with | [_, _], _ => rfl⟩
  have F19 := fun_mk (x := "_law_deck") (st := s_law_deck) l19 c19 k19
  have D_law_deck : Df K mg "_law_deck" "_law_deck" s_law_deck ["cell"] := ⟨_, _, F19, PySem.W.mg_of X G a19, F19.binds (ps := ["cell"]) fun _ _ _ _ _ _ us hl => match us, hl with | [_], _ => rfl⟩
  have F20 := fun_mk (x := "_law_take") (st := s_law_take) l20 c20 k20
  have D_law_take : Df K mg "_law_take" "_law_take" s_law_take ["deck", "many"] := ⟨_, _, F20, PySem.W.mg_of X G a20, F20.binds (ps := ["deck", "many"]) fun _ _ _ _ _ _ us hl => match us, hl with | [_, _], _ => rfl⟩
  have F21 := fun_mk (x := "_law_number") (st := s_law_number) l21 c21 k21
  have D_law_number : Df K mg "_law_number" "_law_number" s_law_number ["deck", "far"] := ⟨_, _, F21, PySem.W.mg_of X G a21, F21.binds (ps := ["deck", "far"]) fun _ _ _ _ _ _ us hl => match us, hl with | [_, _], _ => rfl⟩
  have F22 := fun_mk (x := "_law_order") (st := s_law_order) l22 c22 k22
  have D_law_order : Df K mg "_law_order" "_law_order" s_law_order ["deck", "many"] := ⟨_, _, F22, PySem.W.mg_of X G a22, F22.binds (ps := ["deck", "many"]) fun _ _ _ _ _ _ us hl => match us, hl with | [_, _], _ => rfl⟩
  have F23 := fun_mk (x := "_law_tree") (st := s_law_tree) l23 c23 k23
  have D_law_tree : Df K mg "_law_tree" "_law_tree" s_law_tree ["deck", "most", "far"] := ⟨_, _, F23, PySem.W.mg_of X G a23, F23.binds (ps := ["deck", "most", "far"]) fun _ _ _ _ _ _ us hl => match us, hl with | [_, _, _], _ => rfl⟩
  have F24 := fun_mk (x := "_law_copied") (st := s_law_copied) l24 c24 k24
  have D_law_copied : Df K mg "_law_copied" "_law_copied" s_law_copied ["tree"] := ⟨_, _, F24, PySem.W.mg_of X G a24, F24.binds (ps := ["tree"]) fun _ _ _ _ _ _ us hl => match us, hl with | [_], _ => rfl⟩
  have F25 := fun_mk (x := "_law_leaf") (st := s_law_leaf) l25 c25 k25
  have D_law_leaf : Df K mg "_law_leaf" "_law_leaf" s_law_leaf ["deck", "leaves", "many"] := ⟨_, _, F25, PySem.W.mg_of X G a25, F25.binds (ps := ["deck", "leaves", "many"]) fun _ _ _ _ _ _ us hl => match us, hl with | [_, _, _], _ => rfl⟩
  have F26 := fun_mk (x := "_law_sum") (st := s_law_sum) l26 c26 k26
  have D_law_sum : Df K mg "_law_sum" "_law_sum" s_law_sum ["deck", "leaves", "many", "deep", "times"] := ⟨_, _, F26, PySem.W.mg_of X G a26, F26.binds (ps := ["deck", "leaves", "many", "deep", "times"]) fun _ _ _ _ _ _ us hl => match us, hl with | [_, _, _, _, _], _ => rfl⟩
  have F27 := fun_mk (x := "_law_rule") (st := s_law_rule) l27 c27 k27
  have D_law_rule : Df K mg "_law_rule" "_law_rule" s_law_rule ["deck", "times"] := ⟨_, _, F27, PySem.W.mg_of X G a27, F27.binds (ps := ["deck", "times"]) fun _ _ _ _ _ _ us hl => match us, hl with | [_, _], _ => rfl⟩
  have F28 := fun_mk (x := "_law_asked") (st := s_law_asked) l28 c28 k28
  have D_law_asked : Df K mg "_law_asked" "_law_asked" s_law_asked ["tree", "rule", "one", "other", "way"] := ⟨_, _, F28, PySem.W.mg_of X G a28, F28.binds (ps := ["tree", "rule", "one", "other", "way"]) fun _ _ _ _ _ _ us hl => match us, hl with | [_, _, _, _, _], _ => rfl⟩
  have F29 := fun_mk (x := "law") (st := s_law) l29 c29 k29
  refine ⟨PySem.W.fnOf "law" "law" (defArgs s_law) (defBody s_law) (defScope s_law) .none kV29 dc29 pm29 an29 cd29 ct29, fun s v => .of_eq rfl, fun base _ _ => ?_⟩
  have C_may_stand : Ca P w K mg base "may_stand" 61 ["told", "leaves", "many"] (sp_may_stand 60 mg) := ok_may_stand nb  D_may_stand 60
  have C_is_rule : Ca P w K mg base "is_rule" 62 ["thing"] (sp_is_rule mg) := ok_is_rule nb C_may_stand  D_is_rule
  have C_need_rule : Ca P w K mg base "need_rule" 63 ["rule"] (sp_need_rule mg) := ok_need_rule nb C_is_rule E_NoRule  D_need_rule
  have C_sum_at : Ca P w K mg base "sum_at" 13 ["sum_told", "own", "tie", "so", "more"] (sp_sum_at 12 mg) := ok_sum_at nb  D_sum_at 12
  have C_begun : Ca P w K mg base "begun" 14 ["rule", "own"] (sp_begun mg) := ok_begun nb C_sum_at  D_begun
  have C_joined : Ca P w K mg base "joined" 14 ["rule", "so", "more", "own"] (sp_joined mg) := ok_joined nb C_sum_at  D_joined
  have C_over_tie : Ca P w K mg base "over_tie" 14 ["rule", "more", "own", "tie"] (sp_over_tie mg) := ok_over_tie nb C_sum_at  D_over_tie
  have C_told_by : Ca P w K mg base "told_by" 14 ["rule", "so", "own"] (sp_told_by mg) := ok_told_by nb C_sum_at  D_told_by
  have C_tied_places := ok_tied_places (P := P) (w := w) (base := base) nb D_tied_places
  have CO_tied_places := ok_tied_places_own (P := P) (w := w) (base := base) nb D_tied_places
  have C_need_place : Ca P w K mg base "need_place" 1 ["tree", "place"] (sp_need_place mg) := ok_need_place nb E_NoPlace  D_need_place
  have C_lengths_of : Ca P w K mg base "lengths_of" 1 ["tree"] (sp_lengths_of mg) := ok_lengths_of nb  D_lengths_of
  have C_tied_to := ok_tied_to nb C_need_place CO_tied_places D_tied_to
  have C_way_between : Ca P w K mg base "way_between" 2 ["tree", "one", "other"] (sp_way_between mg) := ok_way_between nb C_lengths_of C_need_place C_tied_places  D_way_between
  have C_row_with : Ca P w K mg base "row_with" 15 ["tree", "rule", "place", "near"] (sp_row_with mg) := ok_row_with nb C_begun C_joined  D_row_with
  have C_row_down : Ca P w K mg base "row_down" 76 ["tree", "rule", "near", "lengths", "branch"] (sp_row_down 60 mg) := ok_row_down nb C_over_tie C_row_with  D_row_down 60
  have C_branch_row : Ca P w K mg base "branch_row" 77 ["tree", "rule", "branch"] (sp_branch_row mg) := ok_branch_row nb C_lengths_of C_need_rule C_row_down C_tied_places E_NoPlace  D_branch_row
  have C_seat_worth : Ca P w K mg base "seat_worth" 77 ["tree", "rule", "place"] (sp_seat_worth mg) := ok_seat_worth nb C_lengths_of C_need_place C_need_rule C_row_down C_row_with C_tied_places C_told_by  D_seat_worth
  have C_law_stir : Ca P w K mg base "_law_stir" 1 ["cell", "k"] (sp_law_stir mg) := ok_law_stir nb  D_law_stir
  have C_law_deck : Ca P w K mg base "_law_deck" 2 ["cell"] (sp_law_deck mg) := ok_law_deck nb C_law_stir  D_law_deck
  have C_law_take : Ca P w K mg base "_law_take" 1 ["deck", "many"] (sp_law_take mg) := ok_law_take nb  D_law_take
  have C_law_number : Ca P w K mg base "_law_number" 2 ["deck", "far"] (sp_law_number mg) := ok_law_number nb C_law_take  D_law_number
  have C_law_order : Ca P w K mg base "_law_order" 2 ["deck", "many"] (sp_law_order mg) := ok_law_order nb C_law_take  D_law_order
  have C_law_tree : Ca P w K mg base "_law_tree" 3 ["deck", "most", "far"] (sp_law_tree mg) := ok_law_tree nb C_law_number C_law_order C_law_take  D_law_tree
  have C_law_copied : Ca P w K mg base "_law_copied" 1 ["tree"] (sp_law_copied mg) := ok_law_copied nb  D_law_copied
  have C_law_leaf : Ca P w K mg base "_law_leaf" 2 ["deck", "leaves", "many"] (sp_law_leaf mg) := ok_law_leaf nb C_law_take  D_law_leaf
  have C_law_sum : Ca P w K mg base "_law_sum" 8 ["deck", "leaves", "many", "deep", "times"] (sp_law_sum 5 mg) := ok_law_sum nb C_law_leaf C_law_take  D_law_sum 5
  have C_law_rule : Ca P w K mg base "_law_rule" 9 ["deck", "times"] (sp_law_rule mg) := ok_law_rule nb C_law_sum C_law_take  D_law_rule
  have C_law_asked : Ca P w K mg base "_law_asked" 78 ["tree", "rule", "one", "other", "way"] (sp_law_asked mg) := ok_law_asked nb C_branch_row C_seat_worth C_tied_to C_way_between EX  D_law_asked
  exact ok_law nb C_law_asked C_law_copied C_law_deck C_law_rule C_law_take C_law_tree F29
theorem walk {l : PySem.W.OpenLaw} {q : Program} {loose : List Str} {XP : (Str → Option Value) → Heap → Prop} {YP : World → Heap → Prop} {d : DefRec} {K : Params → PySem.W.Frag} (hn : l.most = some 63) (hdf : d.params.defaults = [])
    (hY : ∀ (w : World) (h : Heap), YP w h → (K w.params).In h)
    (F : ∀ (w : World) (mg : Str → Option Value) (fa : Addr) (h : Heap), (K w.params).In h → h.Ns mainGlobals mg → mg d.name = some (.ref fa) →
      ∃ fd : FuncData, (∀ (s : Shared) (u : Value), BindsTo s fd ⟨[u], []⟩ [("script", u)]) ∧ ∀ base : Heap, (K w.params).In base → base.Ns mainGlobals mg → FnOk l.prog w (K w.params) mg base (L2.CX l.prog w) 79 fa fd ["script"] (sp_law (K w.params))) :
    PySem.W.WalkO q loose XP YP l.row.toRowW d [] (fun f vs => PySem.call f vs) :=
  L2.walk_of (n := 63) (k := 79) (x := "script") (CX := fun w => L2.CX l.prog w) (sp := fun w => sp_law (K w.params)) hn (by decide) hdf ⟨rfl, by decide, by decide⟩ hY F
    (fun _ H a ns hl _ hS => ⟨H, a, ns, rfl, ⟨Same.refl _, (fun _ h => nomatch h), (fun _ h => nomatch h), List.nodup_nil, (fun _ h => nomatch h)⟩, hS, by rw [law_true ns hl]; exact fun _ _ _ => rfl⟩)
    fun _ _ _ _ _ z => by
      obtain ⟨_, _, _, _, _, _, _, _, _, _, _, _, z⟩ := z
      exact z.elim
end G
open PySem PySem.W PyProof.Rows
set_option maxRecDepth 100000 in
set_option maxHeartbeats 0 in
theorem PySem.Challenge.cw_everyseat_k05_no_place_holds : PySem.Challenge.rw_everyseat_k05_no_place.Holds := by
  w_on; o_law; k_head; (case hw => w_witness2)
  k_fill
  refine G.walk (l := PySem.Challenge.rw_everyseat_k05_no_place) rfl rfl (fun w h Y => PySem.W.kIn_of Y) ?F
  case F =>
    intro w mg fa h KX GG hmg
    refine' G.all_mk KX GG hmg ?a1 ?l1 ?c1 ?k1 ?a2 ?l2 ?c2 ?k2 ?a3 ?l3 ?c3 ?k3 ?a4 ?l4 ?c4 ?k4 ?a5 ?l5 ?c5 ?k5 ?a6 ?l6 ?c6 ?k6 ?a7 ?l7 ?c7 ?k7 ?a8 ?l8 ?c8 ?k8 ?a9 ?l9 ?c9 ?k9 ?a10 ?l10 ?c10 ?k10 ?a11 ?l11 ?c11 ?k11 ?a12 ?l12 ?c12 ?k12 ?a13 ?l13 ?c13 ?k13 ?a14 ?l14 ?c14 ?k14 ?a15 ?l15 ?c15 ?k15 ?a16 ?l16 ?c16 ?k16 ?a17 ?l17 ?c17 ?k17 ?a18 ?l18 ?c18 ?k18 ?a19 ?l19 ?c19 ?k19 ?a20 ?l20 ?c20 ?k20 ?a21 ?l21 ?c21 ?k21 ?a22 ?l22 ?c22 ?k22 ?a23 ?l23 ?c23 ?k23 ?a24 ?l24 ?c24 ?k24 ?a25 ?l25 ?c25 ?k25 ?a26 ?l26 ?c26 ?k26 ?a27 ?l27 ?c27 ?k27 ?a28 ?l28 ?c28 ?k28 ?a29 ?l29 ?c29 ?k29 ?ga_NoPlace ?gx_NoPlace ?gk_NoPlace ?gb_NoPlace ?gt_NoPlace ?ga_NoRule ?gx_NoRule ?gk_NoRule ?gb_NoRule ?gt_NoRule ?ga_SeatError ?xd_SeatError ?xt_SeatError ?xn_SeatError ?xb_SeatError ?xs_SeatError_SeatError ?xd_NoPlace ?xt_NoPlace ?xn_NoPlace ?xb_NoPlace ?xs_NoPlace_NoPlace ?xd_NoRule ?xt_NoRule ?xn_NoRule ?xb_NoRule ?xs_NoRule_NoRule ?ga_NoForm ?xd_NoForm ?xt_NoForm ?xn_NoForm ?xb_NoForm ?xs_NoForm_NoForm ?ga_NoLength ?xd_NoLength ?xt_NoLength ?xn_NoLength ?xb_NoLength ?xs_NoLength_NoLength ?ga_NoName ?xd_NoName ?xt_NoName ?xn_NoName ?xb_NoName ?xs_NoName_NoName ?ga_NoOrder ?xd_NoOrder ?xt_NoOrder ?xn_NoOrder ?xb_NoOrder ?xs_NoOrder_NoOrder ?ga_NoPaper ?xd_NoPaper ?xt_NoPaper ?xn_NoPaper ?xb_NoPaper ?xs_NoPaper_NoPaper ?ga_NoText ?xd_NoText ?xt_NoText ?xn_NoText ?xb_NoText ?xs_NoText_NoText ?ga_NoTie ?xd_NoTie ?xt_NoTie ?xn_NoTie ?xb_NoTie ?xs_NoTie_NoTie ?ga_NoTree ?xd_NoTree ?xt_NoTree ?xn_NoTree ?xb_NoTree ?xs_NoTree_NoTree ?xg_NoPlace ?xk_NoPlace ?xc_NoPlace ?xm_NoPlace ?xv_NoPlace ?xs_NoPlace_SeatError ?xs_NoPlace_NoRule ?xs_NoPlace_NoForm ?xs_NoPlace_NoLength ?xs_NoPlace_NoName ?xs_NoPlace_NoOrder ?xs_NoPlace_NoPaper ?xs_NoPlace_NoText ?xs_NoPlace_NoTie ?xs_NoPlace_NoTree ?xg_NoRule ?xk_NoRule ?xc_NoRule ?xm_NoRule ?xv_NoRule ?xs_NoRule_SeatError ?xs_NoRule_NoPlace ?xs_NoRule_NoForm ?xs_NoRule_NoLength ?xs_NoRule_NoName ?xs_NoRule_NoOrder ?xs_NoRule_NoPaper ?xs_NoRule_NoText ?xs_NoRule_NoTie ?xs_NoRule_NoTree ?xh1 ?xh2 ?zc_MOST ?z_ValueError ?z_isinstance ?z_len ?z_list ?z_max ?z_min ?z_range ?z_sorted
    (case a1 => k_is)
    (case l1 => k_is)
    (case c1 => k_is)
    (case k1 => k_is)
    (case a2 => k_is)
    (case l2 => k_is)
    (case c2 => k_is)
    (case k2 => k_is)
    (case a3 => k_is)
    (case l3 => k_is)
    (case c3 => k_is)
    (case k3 => k_is)
    (case a4 => k_is)
    (case l4 => k_is)
    (case c4 => k_is)
    (case k4 => k_is)
    (case a5 => k_is)
    (case l5 => k_is)
    (case c5 => k_is)
    (case k5 => k_is)
    (case a6 => k_is)
    (case l6 => k_is)
    (case c6 => k_is)
    (case k6 => k_is)
    (case a7 => k_is)
    (case l7 => k_is)
    (case c7 => k_is)
    (case k7 => k_is)
    (case a8 => k_is)
    (case l8 => k_is)
    (case c8 => k_is)
    (case k8 => k_is)
    (case a9 => k_is)
    (case l9 => k_is)
    (case c9 => k_is)
    (case k9 => k_is)
    (case a10 => k_is)
    (case l10 => k_is)
    (case c10 => k_is)
    (case k10 => k_is)
    (case a11 => k_is)
    (case l11 => k_is)
    (case c11 => k_is)
    (case k11 => k_is)
    (case a12 => k_is)
    (case l12 => k_is)
    (case c12 => k_is)
    (case k12 => k_is)
    (case a13 => k_is)
    (case l13 => k_is)
    (case c13 => k_is)
    (case k13 => k_is)
    (case a14 => k_is)
    (case l14 => k_is)
    (case c14 => k_is)
    (case k14 => k_is)
    (case a15 => k_is)
    (case l15 => k_is)
    (case c15 => k_is)
    (case k15 => k_is)
    (case a16 => k_is)
    (case l16 => k_is)
    (case c16 => k_is)
    (case k16 => k_is)
    (case a17 => k_is)
    (case l17 => k_is)
    (case c17 => k_is)
    (case k17 => k_is)
    (case a18 => k_is)
    (case l18 => k_is)
    (case c18 => k_is)
    (case k18 => k_is)
    (case a19 => k_is)
    (case l19 => k_is)
    (case c19 => k_is)
    (case k19 => k_is)
    (case a20 => k_is)
    (case l20 => k_is)
    (case c20 => k_is)
    (case k20 => k_is)
    (case a21 => k_is)
    (case l21 => k_is)
    (case c21 => k_is)
    (case k21 => k_is)
    (case a22 => k_is)
    (case l22 => k_is)
    (case c22 => k_is)
    (case k22 => k_is)
    (case a23 => k_is)
    (case l23 => k_is)
    (case c23 => k_is)
    (case k23 => k_is)
    (case a24 => k_is)
    (case l24 => k_is)
    (case c24 => k_is)
    (case k24 => k_is)
    (case a25 => k_is)
    (case l25 => k_is)
    (case c25 => k_is)
    (case k25 => k_is)
    (case a26 => k_is)
    (case l26 => k_is)
    (case c26 => k_is)
    (case k26 => k_is)
    (case a27 => k_is)
    (case l27 => k_is)
    (case c27 => k_is)
    (case k27 => k_is)
    (case a28 => k_is)
    (case l28 => k_is)
    (case c28 => k_is)
    (case k28 => k_is)
    (case a29 => k_is)
    (case l29 => k_is)
    (case c29 => k_is)
    (case k29 => k_is)
    (case ga_NoPlace => k_is)
    (case gx_NoPlace => k_exc)
    (case gk_NoPlace => k_is)
    (case gb_NoPlace => k_is)
    (case gt_NoPlace => k_is)
    (case ga_NoRule => k_is)
    (case gx_NoRule => k_exc)
    (case gk_NoRule => k_is)
    (case gb_NoRule => k_is)
    (case gt_NoRule => k_is)
    (case ga_SeatError => k_is)
    (case xd_SeatError => k_is)
    (case xt_SeatError => k_is)
    (case xn_SeatError => k_is)
    (case xb_SeatError => k_is)
    (case xs_SeatError_SeatError => k_is)
    (case xd_NoPlace => k_is)
    (case xt_NoPlace => k_is)
    (case xn_NoPlace => k_is)
    (case xb_NoPlace => k_is)
    (case xs_NoPlace_NoPlace => k_is)
    (case xd_NoRule => k_is)
    (case xt_NoRule => k_is)
    (case xn_NoRule => k_is)
    (case xb_NoRule => k_is)
    (case xs_NoRule_NoRule => k_is)
    (case ga_NoForm => k_is)
    (case xd_NoForm => k_is)
    (case xt_NoForm => k_is)
    (case xn_NoForm => k_is)
    (case xb_NoForm => k_is)
    (case xs_NoForm_NoForm => k_is)
    (case ga_NoLength => k_is)
    (case xd_NoLength => k_is)
    (case xt_NoLength => k_is)
    (case xn_NoLength => k_is)
    (case xb_NoLength => k_is)
    (case xs_NoLength_NoLength => k_is)
    (case ga_NoName => k_is)
    (case xd_NoName => k_is)
    (case xt_NoName => k_is)
    (case xn_NoName => k_is)
    (case xb_NoName => k_is)
    (case xs_NoName_NoName => k_is)
    (case ga_NoOrder => k_is)
    (case xd_NoOrder => k_is)
    (case xt_NoOrder => k_is)
    (case xn_NoOrder => k_is)
    (case xb_NoOrder => k_is)
    (case xs_NoOrder_NoOrder => k_is)
    (case ga_NoPaper => k_is)
    (case xd_NoPaper => k_is)
    (case xt_NoPaper => k_is)
    (case xn_NoPaper => k_is)
    (case xb_NoPaper => k_is)
    (case xs_NoPaper_NoPaper => k_is)
    (case ga_NoText => k_is)
    (case xd_NoText => k_is)
    (case xt_NoText => k_is)
    (case xn_NoText => k_is)
    (case xb_NoText => k_is)
    (case xs_NoText_NoText => k_is)
    (case ga_NoTie => k_is)
    (case xd_NoTie => k_is)
    (case xt_NoTie => k_is)
    (case xn_NoTie => k_is)
    (case xb_NoTie => k_is)
    (case xs_NoTie_NoTie => k_is)
    (case ga_NoTree => k_is)
    (case xd_NoTree => k_is)
    (case xt_NoTree => k_is)
    (case xn_NoTree => k_is)
    (case xb_NoTree => k_is)
    (case xs_NoTree_NoTree => k_is)
    (case xg_NoPlace => k_is)
    (case xk_NoPlace => k_is)
    (case xc_NoPlace => k_is)
    (case xm_NoPlace => k_is)
    (case xv_NoPlace => k_is)
    (case xs_NoPlace_SeatError => k_is)
    (case xs_NoPlace_NoRule => k_is)
    (case xs_NoPlace_NoForm => k_is)
    (case xs_NoPlace_NoLength => k_is)
    (case xs_NoPlace_NoName => k_is)
    (case xs_NoPlace_NoOrder => k_is)
    (case xs_NoPlace_NoPaper => k_is)
    (case xs_NoPlace_NoText => k_is)
    (case xs_NoPlace_NoTie => k_is)
    (case xs_NoPlace_NoTree => k_is)
    (case xg_NoRule => k_is)
    (case xk_NoRule => k_is)
    (case xc_NoRule => k_is)
    (case xm_NoRule => k_is)
    (case xv_NoRule => k_is)
    (case xs_NoRule_SeatError => k_is)
    (case xs_NoRule_NoPlace => k_is)
    (case xs_NoRule_NoForm => k_is)
    (case xs_NoRule_NoLength => k_is)
    (case xs_NoRule_NoName => k_is)
    (case xs_NoRule_NoOrder => k_is)
    (case xs_NoRule_NoPaper => k_is)
    (case xs_NoRule_NoText => k_is)
    (case xs_NoRule_NoTie => k_is)
    (case xs_NoRule_NoTree => k_is)
    (case xh1 => k_is)
    (case xh2 => k_is)
    (case zc_MOST => k_is)
    (case z_ValueError => k_is)
    (case z_isinstance => k_is)
    (case z_len => k_is)
    (case z_list => k_is)
    (case z_max => k_is)
    (case z_min => k_is)
    (case z_range => k_is)
    (case z_sorted => k_is)
#print axioms PySem.Challenge.cw_everyseat_k05_no_place_holds
