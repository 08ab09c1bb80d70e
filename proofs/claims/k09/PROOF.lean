import PyProof.Rows.All
import Wide.All
import OpenK.AllK
import Wide.FinOn
import HandS.ForMost
import HandS.ForExc
import HandS.Wide
import HandS.Flow
import HandS.Evl
import HandS.Conv
import HandS.IsInst
import KE.SortData
import KE.DatumMoreOrd
import KE.DatumIndex
import HandS.Walk
import HandS.TupSets
import HandS.TryOnly
import HandS.Codes
import HandS.Dict
import HandS.TupLe
import HandS.List
import KE.KDictPairs
import HandS.Exc
import HandS.ExcIs
import HandS.ExcValue
import PyProof.Rows.CountFlat
import PySem.Challenge.RW_everyseat_k09_rules_judged
set_option Elab.async false
set_option linter.all false
set_option maxRecDepth 100000
set_option maxHeartbeats 4000000
/-! My own layer over HandS: mirrors in an error monad, represented data, owned cells. -/
namespace PG
open PySem L2

/-! ### the mirrors' monad -/
inductive Er where
  | bad
  | exc (n : String)
  deriving DecidableEq
abbrev M := Except Er
def wp {a : Type} (m : M a) (Q : a → Prop) (E : String → Prop) : Prop :=
  match m with
  | .ok x => Q x
  | .error .bad => False
  | .error (.exc n) => E n
section
variable {a b : Type} {Q : a → Prop} {R : b → Prop} {E E' : String → Prop}
theorem wp_ok {x : a} : wp (Except.ok x : M a) Q E = Q x := rfl
theorem wp_pure {x : a} : wp (pure x : M a) Q E = Q x := rfl
theorem wp_bind {m : M b} {k : b → M a} : wp (m >>= k) Q E ↔ wp m (fun x => wp (k x) Q E) E := by
  cases m with
  | ok x => exact Iff.rfl
  | error e => cases e <;> exact Iff.rfl
theorem wp_call {m : M b} {k : b → M a} {E1 : String → Prop} (h : wp (m >>= k) Q E) (hr : ∀ r, m = .ok r → wp (k r) Q E → R r) (he : ∀ n, E n → E1 n) : wp m R E1 := by
  cases m with
  | ok x => exact hr x rfl h
  | error e =>
    cases e with
    | bad => exact h
    | exc n => exact he n h
/-- the last call of a def -/
theorem wp_tail {m : M a} {E1 : String → Prop} {R : a → Prop} (h : wp m Q E) (hr : ∀ r, m = .ok r → Q r → R r) (he : ∀ n, E n → E1 n) : wp m R E1 := by
  cases m with
  | ok x => exact hr x rfl h
  | error e =>
    cases e with
    | bad => exact h
    | exc n => exact he n h
def bad : M a := .error .bad
def raise (n : String) : M a := .error (.exc n)
theorem wp_bad {P : Prop} (h : wp (bad : M a) Q E) : P := h.elim
/-- a guard -/
@[irreducible] def chk (c : Prop) [Decidable c] : M Unit := if c then .ok () else bad
theorem wp_chk {c : Prop} [Decidable c] {k : Unit → M a} (h : wp (chk c >>= k) Q E) : c ∧ wp (k ()) Q E := by
  unfold chk at h
  by_cases hc : c
  · rw [if_pos hc] at h
    exact ⟨hc, h⟩
  · rw [if_neg hc] at h
    exact h.elim
/-- something that is there -/
def opt (o : Option b) : M b := match o with
  | some x => .ok x
  | none => bad
theorem wp_opt {o : Option b} {k : b → M a} (h : wp (opt o >>= k) Q E) : ∃ x, o = some x ∧ wp (k x) Q E := by
  cases o with
  | none => exact h.elim
  | some x => exact ⟨x, rfl, h⟩
/-- no exception leaves -/
def nox (m : M a) : M a := match m with
  | .ok x => .ok x
  | .error _ => bad
theorem wp_nox {m : M b} {k : b → M a} (h : wp (nox m >>= k) Q E) : ∃ x, m = .ok x ∧ wp (k x) Q E := by
  cases m with
  | ok x => exact ⟨x, rfl, h⟩
  | error e => exact h.elim
theorem wp_of_ok {m : M b} {x : b} (e : m = .ok x) (h : R x) : wp m R E := by
  rw [e]
  exact h
theorem wp_ite {c : Prop} [Decidable c] {x y : M a} (h : wp (if c then x else y) Q E) : (c → wp x Q E) ∧ (¬ c → wp y Q E) := by
  by_cases hc : c
  · rw [if_pos hc] at h
    exact ⟨fun _ => h, fun n => (n hc).elim⟩
  · rw [if_neg hc] at h
    exact ⟨fun p => (hc p).elim, fun _ => h⟩
end

/-! ### loops -/
/-- a turn's end: on to the next, or the def's return -/
inductive Fl (s r : Type) where
  | nx (x : s)
  | rt (x : r)
section
variable {i s r a : Type}
def loopM (b : i → s → M (Fl s r)) : List i → s → M (Fl s r)
  | [], x => .ok (.nx x)
  | y :: ys, x => b y x >>= fun
    | .nx x' => loopM b ys x'
    | .rt z => .ok (.rt z)
/-- a loop without return -/
def loopN (b : i → s → M s) : List i → s → M s
  | [], x => .ok x
  | y :: ys, x => b y x >>= fun x' => loopN b ys x'
def whileM (c : s → M Bool) (b : s → M (Fl s r)) : Nat → s → M (Fl s r)
  | 0, _ => bad
  | n + 1, x => c x >>= fun t => if t = true then b x >>= fun
      | .nx x' => whileM c b n x'
      | .rt z => .ok (.rt z)
    else .ok (.nx x)
def whileN (c : s → M Bool) (b : s → M s) : Nat → s → M s
  | 0, _ => bad
  | n + 1, x => c x >>= fun t => if t = true then b x >>= fun x' => whileN c b n x' else .ok x
/-- a comprehension: f gives an element, or none where the test fails -/
def compN (b : i → s → M (Option a × s)) : List i → s → M (List a × s)
  | [], x => .ok ([], x)
  | y :: ys, x => b y x >>= fun p => compN b ys p.2 >>= fun q => .ok (match p.1 with
    | some z => z :: q.1
    | none => q.1, q.2)
/-- .. that changes nothing -/
def compM (b : i → M (Option a)) : List i → M (List a)
  | [] => .ok []
  | y :: ys => b y >>= fun p => compM b ys >>= fun q => .ok (match p with
    | some z => z :: q
    | none => q)
end

/-! ### what a value stands for -/
open PySem.W (T3 T4 Datum DatumOrd)
mutual
inductive Rep (H : Hp) : V → PyData → Prop
  | non : Rep H .non .none
  | bl (b : Bool) : Rep H (.bl b) (.bool b)
  | int (i : Int) : Rep H (.int i) (.int i)
  | str (x : Str) : Rep H (.str x) (.str x)
  | lst {a : Addr} {xs : List V} {ds : List PyData} : H a = some (.lst xs) → RepA H xs ds → Rep H (.ref a) (.list ds)
  | tup {a : Addr} {xs : List V} {ds : List PyData} : H a = some (.tup xs) → RepA H xs ds → Rep H (.ref a) (.tuple ds)
inductive RepA (H : Hp) : List V → List PyData → Prop
  | nil : RepA H [] []
  | cons {v : V} {vs : List V} {d : PyData} {ds : List PyData} : Rep H v d → RepA H vs ds → RepA H (v :: vs) (d :: ds)
end
mutual
theorem Rep.mono {H H' : Hp} (s : Same H H') : ∀ (d : PyData) (v : V), Rep H v d → Rep H' v d
  | .none, _, h => by cases h; exact .non
  | .bool _, _, h => by cases h; exact .bl _
  | .int _, _, h => by cases h; exact .int _
  | .str _, _, h => by cases h; exact .str _
  | .list ds, _, h => by
    cases h with
    | lst ha hs => exact .lst (s _ _ ha) (RepA.mono s ds _ hs)
  | .tuple ds, _, h => by
    cases h with
    | tup ha hs => exact .tup (s _ _ ha) (RepA.mono s ds _ hs)
  | .dict _, _, h => by cases h
theorem RepA.mono {H H' : Hp} (s : Same H H') : ∀ (ds : List PyData) (vs : List V), RepA H vs ds → RepA H' vs ds
  | [], _, h => by cases h; exact .nil
  | d :: ds, _, h => by
    cases h with
    | cons h1 h2 => exact .cons (Rep.mono s d _ h1) (RepA.mono s ds _ h2)
end
mutual
theorem Rep.dp {K : PySem.W.Frag} {H : Hp} : ∀ (d : PyData) (v : V), Rep H v d → Dp K H v d
  | .none, _, h => by cases h; exact .non
  | .bool _, _, h => by cases h; exact .bl _
  | .int _, _, h => by cases h; exact .int _
  | .str _, _, h => by cases h; exact .str _
  | .list ds, _, h => by
    cases h with
    | lst ha hs => exact .lst (SqL.of ha) (RepA.dp ds _ hs)
  | .tuple ds, _, h => by
    cases h with
    | tup ha hs => exact .tup (SqT.of ha) (RepA.dp ds _ hs)
  | .dict _, _, h => by cases h
theorem RepA.dp {K : PySem.W.Frag} {H : Hp} : ∀ (ds : List PyData) (vs : List V), RepA H vs ds → DpAll K H vs ds
  | [], _, h => by cases h; exact .nil
  | d :: ds, _, h => by
    cases h with
    | cons h1 h2 => exact .cons (Rep.dp d _ h1) (RepA.dp ds _ h2)
end

/-- a Lean type whose values are Python's data -/
class Py (a : Type) where
  toD : a → PyData
instance : Py Int := ⟨.int⟩
instance : Py Bool := ⟨.bool⟩
instance : Py Str := ⟨.str⟩
instance : Py Unit := ⟨fun _ => .none⟩
instance {a : Type} [Py a] : Py (List a) := ⟨fun xs => .list (xs.map Py.toD)⟩
instance {a b : Type} [Py a] [Py b] : Py (a × b) := ⟨fun p => .tuple [Py.toD p.1, Py.toD p.2]⟩
instance {a b c : Type} [Py a] [Py b] [Py c] : Py (T3 a b c) := ⟨fun p => .tuple [Py.toD p.a, Py.toD p.b, Py.toD p.c]⟩
instance {a b c d : Type} [Py a] [Py b] [Py c] [Py d] : Py (T4 a b c d) := ⟨fun p => .tuple [Py.toD p.a, Py.toD p.b, Py.toD p.c, Py.toD p.d]⟩
instance {a : Type} [Py a] : Py (Option a) := ⟨fun o => match o with
  | none => .none
  | some x => Py.toD x⟩
class IsD (a : Type) [Py a] [DecidableEq a] [Datum a] : Prop where
  eq : ∀ x : a, Py.toD x = Datum.toD x
instance : IsD Int := ⟨fun _ => rfl⟩
instance : IsD Bool := ⟨fun _ => rfl⟩
instance : IsD Str := ⟨fun _ => rfl⟩
instance : IsD Unit := ⟨fun _ => rfl⟩
section
variable {a b c d : Type} [Py a] [DecidableEq a] [Datum a] [IsD a] [Py b] [DecidableEq b] [Datum b] [IsD b] [Py c] [DecidableEq c] [Datum c] [IsD c] [Py d] [DecidableEq d] [Datum d] [IsD d]
theorem map_toD (xs : List a) : xs.map (Py.toD : a → PyData) = xs.map Datum.toD := List.map_congr_left fun x _ => IsD.eq x
instance : IsD (List a) := ⟨fun xs => congrArg PyData.list (map_toD xs)⟩
instance : IsD (a × b) := ⟨fun p => by show PyData.tuple [_, _] = PyData.tuple [_, _]; rw [IsD.eq, IsD.eq]⟩
instance : IsD (T3 a b c) := ⟨fun p => by show PyData.tuple [_, _, _] = PyData.tuple [_, _, _]; rw [IsD.eq, IsD.eq, IsD.eq]⟩
instance : IsD (T4 a b c d) := ⟨fun p => by show PyData.tuple [_, _, _, _] = PyData.tuple [_, _, _, _]; rw [IsD.eq, IsD.eq, IsD.eq, IsD.eq]⟩
instance [PySem.W.SomeDatum a] : IsD (Option a) := ⟨fun o => by
  cases o with
  | none => rfl
  | some x => exact IsD.eq x⟩
end

/-- v stands for x -/
def R {a : Type} [Py a] (H : Hp) (v : V) (x : a) : Prop := Rep H v (Py.toD x)
/-- item by item -/
def RL {a : Type} [Py a] (H : Hp) (vs : List V) (xs : List a) : Prop := RepA H vs (xs.map Py.toD)
section
variable {H H' : Hp} {v : V} {vs : List V} {p q : Addr}
theorem R.mono {a : Type} [Py a] {x : a} (h : R H v x) (s : Same H H') : R H' v x := Rep.mono s _ _ h
theorem RL.mono {a : Type} [Py a] {xs : List a} (h : RL H vs xs) (s : Same H H') : RL H' vs xs := RepA.mono s _ _ h
theorem R.int {i : Int} : R H (.int i) i := Rep.int i
theorem R.bl {b : Bool} : R H (.bl b) b := Rep.bl b
theorem R.str {x : Str} : R H (.str x) x := Rep.str x
theorem R.unit {u : Unit} : R H .non u := Rep.non
theorem R.non {a : Type} [Py a] : R H .non (none : Option a) := Rep.non
theorem R.jst {a : Type} [Py a] {x : a} (h : R H v x) : R H v (some x) := h
theorem R.int_ {i : Int} (h : R H v i) : v = .int i := by cases h; rfl
theorem R.bl_ {b : Bool} (h : R H v b) : v = .bl b := by cases h; rfl
theorem R.str_ {x : Str} (h : R H v x) : v = .str x := by cases h; rfl
theorem R.unit_ {u : Unit} (h : R H v u) : v = .non := by cases h; rfl
theorem R.non_ {a : Type} [Py a] (h : R H v (none : Option a)) : v = .non := by cases h; rfl
theorem R.jst_ {a : Type} [Py a] {x : a} (h : R H v (some x)) : R H v x := h
variable {a b c d : Type} [Py a] [Py b] [Py c] [Py d]
theorem R.lst {xs : List a} (ha : H p = some (.lst vs)) (h : RL H vs xs) : R H (.ref p) xs := Rep.lst ha h
theorem R.lst_ {xs : List a} (h : R H v xs) : ∃ p vs, v = .ref p ∧ H p = some (.lst vs) ∧ RL H vs xs := by
  have h' : Rep H v (.list (xs.map Py.toD)) := h
  cases h' with
  | lst ha hs => exact ⟨_, _, rfl, ha, hs⟩
theorem R.t2 {x : a × b} {v1 v2 : V} (ha : H p = some (.tup [v1, v2])) (h1 : R H v1 x.1) (h2 : R H v2 x.2) : R H (.ref p) x := Rep.tup ha (.cons h1 (.cons h2 .nil))
theorem R.t2_ {x : a × b} (h : R H v x) : ∃ p v1 v2, v = .ref p ∧ H p = some (.tup [v1, v2]) ∧ R H v1 x.1 ∧ R H v2 x.2 := by
  have h' : Rep H v (.tuple [_, _]) := h
  cases h' with
  | tup ha hs =>
    cases hs with
    | cons h1 hs =>
      cases hs with
      | cons h2 hs =>
        cases hs
        exact ⟨_, _, _, rfl, ha, h1, h2⟩
theorem R.t3 {x : T3 a b c} {v1 v2 v3 : V} (ha : H p = some (.tup [v1, v2, v3])) (h1 : R H v1 x.a) (h2 : R H v2 x.b) (h3 : R H v3 x.c) : R H (.ref p) x := Rep.tup ha (.cons h1 (.cons h2 (.cons h3 .nil)))
theorem R.t3_ {x : T3 a b c} (h : R H v x) : ∃ p v1 v2 v3, v = .ref p ∧ H p = some (.tup [v1, v2, v3]) ∧ R H v1 x.a ∧ R H v2 x.b ∧ R H v3 x.c := by
  have h' : Rep H v (.tuple [_, _, _]) := h
  cases h' with
  | tup ha hs =>
    cases hs with
    | cons h1 hs =>
      cases hs with
      | cons h2 hs =>
        cases hs with
        | cons h3 hs =>
          cases hs
          exact ⟨_, _, _, _, rfl, ha, h1, h2, h3⟩
theorem R.t4 {x : T4 a b c d} {v1 v2 v3 v4 : V} (ha : H p = some (.tup [v1, v2, v3, v4])) (h1 : R H v1 x.a) (h2 : R H v2 x.b) (h3 : R H v3 x.c) (h4 : R H v4 x.d) : R H (.ref p) x :=
  Rep.tup ha (.cons h1 (.cons h2 (.cons h3 (.cons h4 .nil))))
theorem R.t4_ {x : T4 a b c d} (h : R H v x) : ∃ p v1 v2 v3 v4, v = .ref p ∧ H p = some (.tup [v1, v2, v3, v4]) ∧ R H v1 x.a ∧ R H v2 x.b ∧ R H v3 x.c ∧ R H v4 x.d := by
  have h' : Rep H v (.tuple [_, _, _, _]) := h
  cases h' with
  | tup ha hs =>
    cases hs with
    | cons h1 hs =>
      cases hs with
      | cons h2 hs =>
        cases hs with
        | cons h3 hs =>
          cases hs with
          | cons h4 hs =>
            cases hs
            exact ⟨_, _, _, _, _, rfl, ha, h1, h2, h3, h4⟩
theorem RL.nil : RL H [] ([] : List a) := RepA.nil
theorem RL.cons {x : a} {xs : List a} (h : R H v x) (hs : RL H vs xs) : RL H (v :: vs) (x :: xs) := RepA.cons h hs
theorem RL.cons_ {x : a} {xs : List a} (h : RL H vs (x :: xs)) : ∃ w ws, vs = w :: ws ∧ R H w x ∧ RL H ws xs := by
  have h' : RepA H vs (Py.toD x :: xs.map Py.toD) := h
  cases h' with
  | cons h1 h2 => exact ⟨_, _, rfl, h1, h2⟩
theorem RL.nil_ (h : RL H vs ([] : List a)) : vs = [] := by
  have h' : RepA H vs [] := h
  cases h'
  rfl
theorem RL.len : ∀ {vs : List V} {xs : List a}, RL H vs xs → vs.length = xs.length
  | _, [], h => by rw [RL.nil_ h]; rfl
  | _, x :: xs, h => by
    obtain ⟨w, ws, rfl, _, h2⟩ := RL.cons_ h
    rw [List.length_cons, List.length_cons, RL.len h2]
theorem RL.app : ∀ {vs ws : List V} {xs ys : List a}, RL H vs xs → RL H ws ys → RL H (vs ++ ws) (xs ++ ys)
  | _, _, [], _, h, k => by rw [RL.nil_ h]; exact k
  | _, _, x :: xs, _, h, k => by
    obtain ⟨w, ws', rfl, h1, h2⟩ := RL.cons_ h
    exact RL.cons h1 (RL.app h2 k)
theorem RL.snoc {x : a} {xs : List a} (h : RL H vs xs) (k : R H v x) : RL H (vs ++ [v]) (xs ++ [x]) := RL.app h (RL.cons k RL.nil)
theorem RL.get : ∀ {vs : List V} {xs : List a}, RL H vs xs → ∀ {i : Nat} {x : a}, xs[i]? = some x → ∃ w, vs[i]? = some w ∧ R H w x
  | _, [], _, i, x, e => by simp at e
  | _, y :: ys, h, i, x, e => by
    obtain ⟨w, ws, rfl, h1, h2⟩ := RL.cons_ h
    cases i with
    | zero =>
      cases (Option.some.inj e : y = x)
      exact ⟨w, rfl, h1⟩
    | succ i => exact RL.get h2 (i := i) (by simpa using e)
theorem RL.got : ∀ {vs : List V} {xs : List a}, RL H vs xs → ∀ {i : Nat} {w : V}, vs[i]? = some w → ∃ x, xs[i]? = some x ∧ R H w x
  | _, [], h, i, w, e => by rw [RL.nil_ h] at e; simp at e
  | _, y :: ys, h, i, w, e => by
    obtain ⟨w', ws, rfl, h1, h2⟩ := RL.cons_ h
    cases i with
    | zero =>
      cases (Option.some.inj e : w' = w)
      exact ⟨y, rfl, h1⟩
    | succ i => exact RL.got h2 (i := i) (by simpa using e)
theorem RL.atI {xs : List a} (h : RL H vs xs) {i : Int} {x : a} (e : L2.atI xs i = some x) : ∃ w, L2.atI vs i = some w ∧ R H w x := by
  unfold L2.atI at e ⊢
  rw [h.len]
  cases q : ixN xs.length i with
  | none => rw [q] at e; cases e
  | some j =>
    rw [q] at e
    exact h.get e
theorem RL.take : ∀ {vs : List V} {xs : List a} (n : Nat), RL H vs xs → RL H (vs.take n) (xs.take n)
  | _, _, 0, _ => RL.nil
  | _, [], n + 1, h => by rw [RL.nil_ h]; exact RL.nil
  | _, x :: xs, n + 1, h => by
    obtain ⟨w, ws, rfl, h1, h2⟩ := RL.cons_ h
    exact RL.cons h1 (RL.take n h2)
theorem RL.drop : ∀ {vs : List V} {xs : List a} (n : Nat), RL H vs xs → RL H (vs.drop n) (xs.drop n)
  | _, _, 0, h => h
  | _, [], n + 1, h => by rw [RL.nil_ h]; exact RL.nil
  | _, x :: xs, n + 1, h => by
    obtain ⟨w, ws, rfl, h1, h2⟩ := RL.cons_ h
    exact RL.drop n h2
theorem RL.set : ∀ {vs : List V} {xs : List a} (n : Nat) {w : V} {y : a}, RL H vs xs → R H w y → RL H (vs.set n w) (xs.set n y)
  | _, [], n, _, _, h, _ => by rw [RL.nil_ h]; exact RL.nil
  | _, x :: xs, 0, _, _, h, k => by
    obtain ⟨w, ws, rfl, h1, h2⟩ := RL.cons_ h
    exact RL.cons k h2
  | _, x :: xs, n + 1, _, _, h, k => by
    obtain ⟨w, ws, rfl, h1, h2⟩ := RL.cons_ h
    exact RL.cons h1 (RL.set n h2 k)
theorem RL.erase : ∀ {vs : List V} {xs : List a} (n : Nat), RL H vs xs → RL H (vs.eraseIdx n) (xs.eraseIdx n)
  | _, [], n, h => by rw [RL.nil_ h]; exact RL.nil
  | _, x :: xs, 0, h => by
    obtain ⟨w, ws, rfl, h1, h2⟩ := RL.cons_ h
    exact h2
  | _, x :: xs, n + 1, h => by
    obtain ⟨w, ws, rfl, h1, h2⟩ := RL.cons_ h
    exact RL.cons h1 (RL.erase n h2)
theorem RL.dropLast : ∀ {vs : List V} {xs : List a}, RL H vs xs → RL H vs.dropLast xs.dropLast
  | _, [], h => by rw [RL.nil_ h]; exact RL.nil
  | _, x :: xs, h => by
    obtain ⟨w, ws, rfl, h1, h2⟩ := RL.cons_ h
    cases xs with
    | nil => rw [RL.nil_ h2]; exact RL.nil
    | cons y ys =>
      obtain ⟨w2, ws2, rfl, _, _⟩ := RL.cons_ h2
      exact RL.cons h1 (RL.dropLast h2)
theorem RL.rev : ∀ {vs : List V} {xs : List a}, RL H vs xs → RL H vs.reverse xs.reverse
  | _, [], h => by rw [RL.nil_ h]; exact RL.nil
  | _, x :: xs, h => by
    obtain ⟨w, ws, rfl, h1, h2⟩ := RL.cons_ h
    rw [List.reverse_cons, List.reverse_cons]
    exact RL.snoc (RL.rev h2) h1
theorem RL.ints : ∀ {vs : List V} {xs : List Int}, RL H vs xs → vs = xs.map V.int
  | _, [], h => RL.nil_ h
  | _, x :: xs, h => by
    obtain ⟨w, ws, rfl, h1, h2⟩ := RL.cons_ h
    rw [R.int_ h1, RL.ints h2]
    rfl
theorem RL.of_ints : ∀ {xs : List Int}, RL H (xs.map V.int) xs
  | [] => RL.nil
  | x :: xs => RL.cons R.int RL.of_ints
theorem RL.bls : ∀ {vs : List V} {xs : List Bool}, RL H vs xs → vs = xs.map V.bl
  | _, [], h => RL.nil_ h
  | _, x :: xs, h => by
    obtain ⟨w, ws, rfl, h1, h2⟩ := RL.cons_ h
    rw [R.bl_ h1, RL.bls h2]
    rfl
theorem RL.strs : ∀ {vs : List V} {xs : List Str}, RL H vs xs → vs = xs.map V.str
  | _, [], h => RL.nil_ h
  | _, x :: xs, h => by
    obtain ⟨w, ws, rfl, h1, h2⟩ := RL.cons_ h
    rw [R.str_ h1, RL.strs h2]
    rfl
theorem RL.of_strs : ∀ {xs : List Str}, RL H (xs.map V.str) xs
  | [] => RL.nil
  | x :: xs => RL.cons R.str RL.of_strs
theorem RL.cut {xs : List a} (h : RL H vs xs) (lo hi : Option Int) : RL H (cutV vs lo hi) ((xs.drop (HT.sIx xs.length 0 lo)).take (HT.sIx xs.length xs.length hi - HT.sIx xs.length 0 lo)) := by
  unfold cutV
  rw [h.len]
  exact (h.drop _).take _
end

/-! ### owned cells: F is what is read alone, cs are the cells that the code may change -/
/-- what is known of the heap behind a def, by the heap at its entry; the cells at as may have changed -/
structure Gr (as : List Addr) (F H F' H' : Hp) : Prop where
  f : Same F F'
  s : Same F' H'
  k : ∀ b o, b ∉ as → H b = some o → H' b = some o
  t : ∀ b, H b ≠ none → H' b ≠ none
  n : ∀ b, H b ≠ none → F' b = F b ∨ ∃ xs, H b = some (.tup xs)
  u : ∀ b xs, H' b = some (.tup xs) → H b = none ∨ H b = some (.tup xs)
/-- what may be a cell -/
def noTup : HO → Bool
  | .tup _ => false
  | _ => true
structure Kp (as : List Addr) (H H' : Hp) : Prop where
  k : ∀ b o, b ∉ as → H b = some o → H' b = some o
  t : ∀ b, H b ≠ none → H' b ≠ none
/-- the entry of a def -/
structure Ent where
  as : List Addr
  F : Hp
  H : Hp
structure Ow (Z : Ent) (F : Hp) (cs : List (Addr × HO)) (H : Hp) : Prop where
  g : Gr Z.as Z.F Z.H F H
  cf : ∀ c ∈ cs, F c.1 = none
  ch : ∀ c ∈ cs, H c.1 = some c.2
  nd : (cs.map (·.1)).Nodup
  ca : ∀ c ∈ cs, c.1 ∈ Z.as ∨ Z.H c.1 = none
  nt : ∀ c ∈ cs, noTup c.2 = true
/-- what a def asks of its cells -/
structure Pre (F : Hp) (cs : List (Addr × HO)) (H : Hp) : Prop where
  s : Same F H
  cf : ∀ c ∈ cs, F c.1 = none
  ch : ∀ c ∈ cs, H c.1 = some c.2
  nd : (cs.map (·.1)).Nodup
  nt : ∀ c ∈ cs, noTup c.2 = true
theorem Same.new {H : Hp} {p : Addr} {o : HO} (h : H p = none) : Same H (upd H p o) := fun b u e => by
  rw [upd_ne (ne_of_none e h)]
  exact e
theorem Same.upd2 {F H : Hp} {p : Addr} {o : HO} (s : Same F H) : Same (upd F p o) (upd H p o) := fun b u e => by
  by_cases hb : b = p
  · subst hb
    rw [upd_same] at e ⊢
    exact e
  · rw [upd_ne hb] at e ⊢
    exact s b u e
theorem Same.no {F H : Hp} {p : Addr} (s : Same F H) (h : H p = none) : F p = none := Same.free s h
section
variable {Z : Ent} {F F' H H' : Hp} {cs : List (Addr × HO)} {p a : Addr} {o o' : HO}
theorem Pre.start (P : Pre F cs H) : Ow ⟨cs.map (·.1), F, H⟩ F cs H where
  g := ⟨Same.refl _, P.s, fun _ _ _ e => e, fun _ e => e, fun _ _ => .inl rfl, fun _ _ e => .inr e⟩
  cf := P.cf
  ch := P.ch
  nd := P.nd
  ca := fun c hc => .inl (List.mem_map.mpr ⟨c, hc, rfl⟩)
  nt := P.nt
theorem Ow.s (O : Ow Z F cs H) : Same F H := O.g.s
theorem Ow.pre (O : Ow Z F cs H) : Pre F cs H := ⟨O.g.s, O.cf, O.ch, O.nd, O.nt⟩
theorem Ow.pre0 (O : Ow Z F cs H) : Pre F [] H := ⟨O.g.s, (fun _ h => nomatch h), (fun _ h => nomatch h), List.nodup_nil, fun _ h => nomatch h⟩
theorem Ow.pre1 (O : Ow Z F cs H) (i : Nat) (e : cs[i]? = some (a, o)) : Pre F [(a, o)] H := by
  have m := List.mem_of_getElem? e
  refine ⟨O.g.s, fun c hc => ?_, fun c hc => ?_, by simp, fun c hc => ?_⟩
  · rw [List.mem_singleton.mp hc]; exact O.cf _ m
  · rw [List.mem_singleton.mp hc]; exact O.ch _ m
  · rw [List.mem_singleton.mp hc]; exact O.nt _ m
theorem Ow.at (O : Ow Z F cs H) (i : Nat) (e : cs[i]? = some (a, o)) : H a = some o := O.ch _ (List.mem_of_getElem? e)
theorem Ow.no (O : Ow Z F cs H) (h : H p = none) : F p = none := Same.no O.s h
theorem Gr.new (g : Gr Z.as Z.F Z.H F H) (h : H p = none) : Gr Z.as Z.F Z.H F (upd H p o) where
  f := g.f
  s := g.s.trans (Same.new h)
  k := fun b u hb e => Same.new h b u (g.k b u hb e)
  t := fun b e z => by
    by_cases hb : b = p
    · subst hb; exact g.t _ e h
    · rw [upd_ne hb] at z; exact g.t b e z
  n := g.n
  u := fun b xs e => by
    by_cases hb : b = p
    · subst hb
      cases q : Z.H b with
      | none => exact .inl rfl
      | some u => exact absurd h (g.t b (by rw [q]; simp))
    · rw [upd_ne hb] at e; exact g.u b xs e
/-- a new cell -/
theorem Ow.new (O : Ow Z F cs H) (h : H p = none) (hn : noTup o = true := by rfl) : Ow Z F ((p, o) :: cs) (upd H p o) where
  g := O.g.new h
  cf := fun c hc => by
    rcases List.mem_cons.mp hc with rfl | hc
    · exact O.no h
    · exact O.cf c hc
  ch := fun c hc => by
    rcases List.mem_cons.mp hc with rfl | hc
    · exact upd_same
    · rw [upd_ne (ne_of_none (O.ch c hc) h)]; exact O.ch c hc
  nd := by
    rw [List.map_cons, List.nodup_cons]
    refine ⟨fun hm => ?_, O.nd⟩
    obtain ⟨c, hc, e⟩ := List.mem_map.mp hm
    have z := O.ch c hc
    rw [e] at z
    rw [z] at h
    cases h
  ca := fun c hc => by
    rcases List.mem_cons.mp hc with rfl | hc
    · refine .inr ?_
      cases q : Z.H p with
      | none => rfl
      | some u => exact absurd h (O.g.t p (by rw [q]; simp))
    · exact O.ca c hc
  nt := fun c hc => by
    rcases List.mem_cons.mp hc with rfl | hc
    · exact hn
    · exact O.nt c hc
/-- a new thing that is read alone -/
theorem Ow.put (O : Ow Z F cs H) (h : H p = none) : Ow Z (upd F p o) cs (upd H p o) where
  g := {
    f := O.g.f.trans (Same.new (O.no h))
    s := Same.upd2 O.g.s
    k := (O.g.new h).k
    t := (O.g.new h).t
    n := fun b e => by
      have hb : b ≠ p := fun z => by subst z; exact O.g.t _ e h
      rw [upd_ne hb]
      exact O.g.n b e
    u := (O.g.new h).u }
  cf := fun c hc => by rw [upd_ne (ne_of_none (O.ch c hc) h)]; exact O.cf c hc
  ch := fun c hc => by rw [upd_ne (ne_of_none (O.ch c hc) h)]; exact O.ch c hc
  nd := O.nd
  ca := O.ca
  nt := O.nt
theorem map_set_fst {i : Nat} (e : cs[i]? = some (a, o)) : (cs.set i (a, o')).map (·.1) = cs.map (·.1) := by
  rw [List.map_set]
  obtain ⟨h, e'⟩ := List.getElem?_eq_some_iff.mp e
  refine List.ext_getElem? fun j => ?_
  by_cases hj : i = j
  · subst hj
    rw [List.getElem?_set_self (by simpa using h), List.getElem?_map, e]
    rfl
  · rw [List.getElem?_set_ne hj]
theorem nd_other {i : Nat} (nd : (cs.map (·.1)).Nodup) (e : cs[i]? = some (a, o)) {c : Addr × HO} (hc : c ∈ cs.set i (a, o')) : c = (a, o') ∨ (c ∈ cs ∧ c.1 ≠ a) := by
  obtain ⟨j, hj⟩ := List.mem_iff_getElem?.mp hc
  by_cases hij : i = j
  · subst hij
    obtain ⟨h, _⟩ := List.getElem?_eq_some_iff.mp e
    rw [List.getElem?_set_self h] at hj
    exact .inl (Option.some.inj hj).symm
  · rw [List.getElem?_set_ne hij] at hj
    refine .inr ⟨List.mem_of_getElem? hj, fun z => hij ?_⟩
    have h1 : (cs.map (·.1))[i]? = some a := by rw [List.getElem?_map, e]; rfl
    have h2 : (cs.map (·.1))[j]? = some a := by rw [List.getElem?_map, hj, ← z]; rfl
    exact nd_ix nd h1 h2
/-- a cell is changed -/
theorem Ow.set (O : Ow Z F cs H) (i : Nat) (o' : HO) (e : cs[i]? = some (a, o)) (hn : noTup o' = true := by rfl) : Ow Z F (cs.set i (a, o')) (upd H a o') := by
  have m := List.mem_of_getElem? e
  have ha := O.ca _ m
  refine ⟨⟨O.g.f, fun b u q => ?_, fun b u hb q => ?_, fun b q z => ?_, O.g.n, fun b xs q => ?_⟩, fun c hc => ?_, fun c hc => ?_, ?_, fun c hc => ?_, fun c hc => ?_⟩
  · have hb : b ≠ a := fun z => by subst z; rw [O.cf _ m] at q; cases q
    rw [upd_ne hb]
    exact O.g.s b u q
  · have hba : b ≠ a := fun z => by
      subst z
      rcases ha with ha | ha
      · exact hb ha
      · have q' : Z.H b = some u := q
        have ha' : Z.H b = none := ha
        rw [ha'] at q'; cases q'
    rw [upd_ne hba]
    exact O.g.k b u hb q
  · by_cases hb : b = a
    · subst hb; rw [upd_same] at z; cases z
    · rw [upd_ne hb] at z; exact O.g.t b q z
  · by_cases hb : b = a
    · subst hb
      rw [upd_same] at q
      rw [Option.some.inj q] at hn
      cases hn
    · rw [upd_ne hb] at q; exact O.g.u b xs q
  · rcases nd_other O.nd e hc with rfl | ⟨h1, _⟩
    · exact O.cf (a, o) m
    · exact O.cf c h1
  · rcases nd_other O.nd e hc with rfl | ⟨h1, h2⟩
    · exact upd_same
    · rw [upd_ne h2]; exact O.ch c h1
  · rw [map_set_fst e]; exact O.nd
  · rcases nd_other O.nd e hc with rfl | ⟨h1, _⟩
    · exact ha
    · exact O.ca c h1
  · rcases nd_other O.nd e hc with rfl | ⟨h1, _⟩
    · exact hn
    · exact O.nt c h1
theorem mem_erase {i : Nat} {c : Addr × HO} (h : c ∈ cs.eraseIdx i) : c ∈ cs := List.mem_of_mem_eraseIdx h
theorem nd_erase {i : Nat} (h : (cs.map (·.1)).Nodup) : ((cs.eraseIdx i).map (·.1)).Nodup := by
  exact h.sublist ((List.eraseIdx_sublist cs i).map (fun x => x.1))
/-- a cell that nobody changes any more (it was not there at the entry) -/
theorem Ow.frz (O : Ow Z F cs H) (i : Nat) (e : cs[i]? = some (a, o)) (hz : Z.H a = none) : Ow Z (upd F a o) (cs.eraseIdx i) H := by
  have m := List.mem_of_getElem? e
  have h1 : ∀ c ∈ cs.eraseIdx i, c.1 ≠ a := fun c hc z => by
    have nd := O.nd
    obtain ⟨hi, e'⟩ := List.getElem?_eq_some_iff.mp e
    obtain ⟨j, hj⟩ := List.mem_iff_getElem?.mp hc
    rw [List.getElem?_eraseIdx] at hj
    have h1 : (cs.map (·.1))[i]? = some a := by rw [List.getElem?_map, e]; rfl
    by_cases hji : j < i
    · rw [if_pos hji] at hj
      have h2 : (cs.map (·.1))[j]? = some a := by rw [List.getElem?_map, hj, ← z]; rfl
      have := nd_ix nd h1 h2
      omega
    · rw [if_neg hji] at hj
      have h2 : (cs.map (·.1))[j + 1]? = some a := by rw [List.getElem?_map, hj, ← z]; rfl
      have := nd_ix nd h1 h2
      omega
  refine ⟨⟨O.g.f.trans (Same.new (O.cf _ m)), fun b u q => ?_, O.g.k, O.g.t, fun b q => ?_, O.g.u⟩, fun c hc => ?_, fun c hc => O.ch c (mem_erase hc), nd_erase O.nd, fun c hc => O.ca c (mem_erase hc), fun c hc => O.nt c (mem_erase hc)⟩
  · by_cases hb : b = a
    · subst hb; rw [upd_same] at q; rw [← q]; exact O.ch _ m
    · rw [upd_ne hb] at q; exact O.g.s b u q
  · have hb : b ≠ a := fun z => by subst z; exact q hz
    rw [upd_ne hb]
    exact O.g.n b q
  · rw [upd_ne (h1 c hc)]; exact O.cf c (mem_erase hc)
theorem Ow.drop (O : Ow Z F cs H) (i : Nat) : Ow Z F (cs.eraseIdx i) H := ⟨O.g, fun c hc => O.cf c (mem_erase hc), fun c hc => O.ch c (mem_erase hc), nd_erase O.nd, fun c hc => O.ca c (mem_erase hc), fun c hc => O.nt c (mem_erase hc)⟩
theorem Ow.frzS (O : Ow Z F cs H) (i : Nat) (e : cs[i]? = some (a, o)) : Same F (upd F a o) := Same.new (O.cf _ (List.mem_of_getElem? e))
theorem Ow.putS (O : Ow Z F cs H) (h : H p = none) : Same F (upd F p o) := Same.new (O.no h)
theorem Gr.then {as : List Addr} (g0 : Gr Z.as Z.F Z.H F H) (g : Gr as F H F' H') (ha : ∀ b ∈ as, b ∈ Z.as ∨ Z.H b = none) : Gr Z.as Z.F Z.H F' H' where
  f := g0.f.trans g.f
  s := g.s
  k := fun b u hb e => by
    refine g.k b u (fun z => ?_) (g0.k b u hb e)
    rcases ha b z with h | h
    · exact hb h
    · rw [h] at e; cases e
  t := fun b e => g.t b (g0.t b e)
  n := fun b e => by
    rcases g0.n b e with h0 | h0
    · rcases g.n b (g0.t b e) with h1 | ⟨xs, hx⟩
      · exact .inl (h1.trans h0)
      · rcases g0.u b xs hx with z | z
        · exact absurd z e
        · exact .inr ⟨xs, z⟩
    · exact .inr h0
  u := fun b xs e => by
    rcases g.u b xs e with z | z
    · refine .inl ?_
      cases q : Z.H b with
      | none => rfl
      | some u => exact absurd z (g0.t b (by rw [q]; simp))
    · exact g0.u b xs z
theorem Gr.none {as : List Addr} (g : Gr as F H F' H') {c : Addr × HO} (h : H c.1 = some c.2) (hn : noTup c.2 = true) (hf : F c.1 = Option.none) : F' c.1 = Option.none := by
  rcases g.n c.1 (by rw [h]; simp) with z | ⟨xs, z⟩
  · exact z.trans hf
  · rw [h] at z
    rw [Option.some.inj z] at hn
    cases hn
/-- behind a call that changes none of our cells -/
theorem Ow.call0 (O : Ow Z F cs H) (g : Gr [] F H F' H') : Ow Z F' cs H' where
  g := O.g.then g (fun _ h => nomatch h)
  cf := fun c hc => g.none (O.ch c hc) (O.nt c hc) (O.cf c hc)
  ch := fun c hc => g.k _ _ (fun h => nomatch h) (O.ch c hc)
  nd := O.nd
  ca := O.ca
  nt := O.nt
/-- .. one -/
theorem Ow.call1 (O : Ow Z F cs H) (g : Gr [a] F H F' H') (i : Nat) (e : cs[i]? = some (a, o)) (h' : H' a = some o') (hn : noTup o' = true := by rfl) : Ow Z F' (cs.set i (a, o')) H' := by
  have m := List.mem_of_getElem? e
  refine ⟨O.g.then g (fun b hb => by rw [List.mem_singleton.mp hb]; exact O.ca _ m), fun c hc => ?_, fun c hc => ?_, by rw [map_set_fst e]; exact O.nd, fun c hc => ?_, fun c hc => ?_⟩
  · rcases nd_other O.nd e hc with rfl | ⟨h1, _⟩
    · exact g.none (c := (a, o)) (O.ch (a, o) m) (O.nt (a, o) m) (O.cf (a, o) m)
    · exact g.none (O.ch c h1) (O.nt c h1) (O.cf c h1)
  · rcases nd_other O.nd e hc with rfl | ⟨h1, h2⟩
    · exact h'
    · exact g.k _ _ (fun z => h2 (List.mem_singleton.mp z)) (O.ch c h1)
  · rcases nd_other O.nd e hc with rfl | ⟨h1, _⟩
    · exact O.ca (a, o) m
    · exact O.ca c h1
  · rcases nd_other O.nd e hc with rfl | ⟨h1, _⟩
    · exact hn
    · exact O.nt c h1
/-- a cell that a call made -/
theorem Ow.add {H0 : Hp} {F0 : Hp} (O : Ow Z F cs H) (O0 : Ow Z F0 cs' H0) (hk : ∀ c ∈ cs, c.1 ∈ cs'.map (·.1)) (hn : H0 p = none) (hf : F p = none) (h : H p = some o) (ht : noTup o = true := by rfl) : Ow Z F ((p, o) :: cs) H where
  g := O.g
  cf := fun c hc => by
    rcases List.mem_cons.mp hc with rfl | hc
    · exact hf
    · exact O.cf c hc
  ch := fun c hc => by
    rcases List.mem_cons.mp hc with rfl | hc
    · exact h
    · exact O.ch c hc
  nd := by
    rw [List.map_cons, List.nodup_cons]
    refine ⟨fun hm => ?_, O.nd⟩
    obtain ⟨c, hc, e⟩ := List.mem_map.mp hm
    obtain ⟨c', hc', e'⟩ := List.mem_map.mp (hk c hc)
    have z := O0.ch c' hc'
    rw [e', e] at z
    rw [z] at hn
    cases hn
  ca := fun c hc => by
    rcases List.mem_cons.mp hc with rfl | hc
    · refine .inr ?_
      cases q : Z.H p with
      | none => rfl
      | some u => exact absurd hn (O0.g.t p (by rw [q]; simp))
    · exact O.ca c hc
  nt := fun c hc => by
    rcases List.mem_cons.mp hc with rfl | hc
    · exact ht
    · exact O.nt c hc
theorem Ow.kp (O : Ow Z F cs H) : Kp Z.as Z.H H := ⟨O.g.k, O.g.t⟩
theorem Kp.of {as : List Addr} {H0 H1 : Hp} (g : Gr as F H0 F' H1) : Kp as H0 H1 := ⟨g.k, g.t⟩
/-- an error of a call leaves this def -/
theorem Ow.kpCall {as : List Addr} {H1 : Hp} (O : Ow Z F cs H) (k : Kp as H H1) (ha : ∀ b ∈ as, ∃ o, (b, o) ∈ cs) : Kp Z.as Z.H H1 where
  k := fun b u hb e => by
    refine k.k b u (fun z => ?_) (O.g.k b u hb e)
    obtain ⟨o, hc⟩ := ha b z
    rcases O.ca _ hc with h | h
    · exact hb h
    · have h' : Z.H b = none := h
      rw [h'] at e; cases e
  t := fun b e => k.t b (O.g.t b e)
theorem Ow.kp0 {H1 : Hp} (O : Ow Z F cs H) (k : Kp [] H H1) : Kp Z.as Z.H H1 := O.kpCall k fun _ h => nomatch h
theorem Ow.kp1 {H1 : Hp} (O : Ow Z F cs H) (k : Kp [a] H H1) (i : Nat) (e : cs[i]? = some (a, o)) : Kp Z.as Z.H H1 := O.kpCall k fun b hb => by
  rw [List.mem_singleton.mp hb]
  exact ⟨o, List.mem_of_getElem? e⟩
end
end PG

set_option Elab.async false
set_option linter.all false
set_option maxRecDepth 100000
set_option maxHeartbeats 4000000
namespace PG
open PySem L2
open PySem.W (T3 T4 Datum DatumOrd Holds HoldAll EachIs)
/-! ### rules over typed data -/
section
variable {X : Cx} {pins : List (Addr × Obj)} {σ : St} {H : Hp} {s : Shared} {v : V} {u : Value} {vs : List V} {us : List Value}
theorem R.holds {a : Type} [Py a] [DecidableEq a] [Datum a] [IsD a] {x : a} (I : Inv X pins σ H s) (h : R H v x) (r : RelV v u) : Holds s.heap u x := by
  obtain ⟨as, q⟩ := Dp.reads I _ _ _ (Rep.dp _ _ h) r
  rw [IsD.eq] at q
  exact ⟨as, q⟩
theorem RL.holds {a : Type} [Py a] [DecidableEq a] [Datum a] [IsD a] {xs : List a} (I : Inv X pins σ H s) (h : RL H vs xs) (r : Vals vs us) : HoldAll s.heap us xs := by
  obtain ⟨as, q⟩ := Dp.readsAll I _ _ _ (RepA.dp _ _ h) r
  rw [map_toD] at q
  exact ⟨as, q⟩
end
section
variable {X : Cx} (a : Type) [Py a] [DecidableEq a] [Datum a] [IsD a]
def rEqT : R2 := fun x y H Q => ∃ p q : a, R H x p ∧ R H y q ∧ Q (.bl (decide (p = q))) H
def rNeT : R2 := fun x y H Q => ∃ p q : a, R H x p ∧ R H y q ∧ Q (.bl (decide (p ≠ q))) H
theorem op_eqT (hu : X.A.units + 64 < cLine) (hd : Datum.depth a ≤ 64 := by decide) : OpR X (compareOp .Eq) (rEqT a) := by
  intro pins s σ H x y v u Q I rx ry h
  obtain ⟨p, q, hp, hq, k⟩ := h
  exact PySem.W.eq_datum (hp.holds I rx) (hq.holds I ry) (by omega) ⟨.bl _, H, I, rfl, k⟩
theorem op_neT (hu : X.A.units + 64 < cLine) (hd : Datum.depth a ≤ 64 := by decide) : OpR X (compareOp .NotEq) (rNeT a) := by
  intro pins s σ H x y v u Q I rx ry h
  obtain ⟨p, q, hp, hq, k⟩ := h
  exact PySem.W.ne_datum (hp.holds I rx) (hq.holds I ry) (by omega) ⟨.bl _, H, I, rfl, k⟩
def rInT (neg : Bool) : R2 := fun x y H Q => ∃ (p : a) (l : Addr) (vs : List V) (ys : List a), R H x p ∧ y = .ref l ∧ (H l = some (.lst vs) ∨ H l = some (.tup vs)) ∧ RL H vs ys ∧ Q (.bl (if neg then decide (p ∉ ys) else decide (p ∈ ys))) H
end
section
variable {X : Cx} (a : Type) [Py a] [DecidableEq a] [Datum a] [IsD a]
theorem op_inT (hu : X.A.units + 64 < cLine) (hd : Datum.depth a ≤ 60 := by decide) : OpR X (compareOp .In) (rInT a false) := by
  intro pins s σ H x y v u Q I rx ry h
  obtain ⟨p, l, vs, ys, hp, rfl, hl, hy, k⟩ := h
  cases ry
  rcases hl with hl | hl
  · obtain ⟨its, rv, hL, _⟩ := I.list (SqL.of (K := X.K) hl)
    exact PySem.W.in_list_datum hL.isList (by simpa using hy.holds I rv) (hp.holds I rx) (by omega) ⟨.bl _, H, I, rfl, k⟩
  · obtain ⟨its, rv, hL, _⟩ := I.tuple (SqT.of (K := X.K) hl)
    exact PySem.W.in_tuple_datum (show s.heap.IsTuple l its.toArray from hL) (by simpa using hy.holds I rv) (hp.holds I rx) (by omega) ⟨.bl _, H, I, rfl, k⟩
theorem op_ninT (hu : X.A.units + 64 < cLine) (hd : Datum.depth a ≤ 60 := by decide) : OpR X (compareOp .NotIn) (rInT a true) := by
  intro pins s σ H x y v u Q I rx ry h
  obtain ⟨p, l, vs, ys, hp, rfl, hl, hy, k⟩ := h
  cases ry
  rcases hl with hl | hl
  · obtain ⟨its, rv, hL, _⟩ := I.list (SqL.of (K := X.K) hl)
    exact PySem.W.notIn_list_datum hL.isList (by simpa using hy.holds I rv) (hp.holds I rx) (by omega) ⟨.bl _, H, I, rfl, k⟩
  · obtain ⟨its, rv, hL, _⟩ := I.tuple (SqT.of (K := X.K) hl)
    exact PySem.W.notIn_tuple_datum (show s.heap.IsTuple l its.toArray from hL) (by simpa using hy.holds I rv) (hp.holds I rx) (by omega) ⟨.bl _, H, I, rfl, k⟩
end

/-! ### sorted -/
/-- how data may be sorted: all are tuples with an item, or none is a tuple or None -/
class SortB (a : Type) [DecidableEq a] [Datum a] : Prop where
  ok : (∀ x : a, ∃ d r, Datum.toD x = .tuple (d :: r)) ∨ ∀ x : a, Datum.toD x ≠ .none ∧ ∀ ds, Datum.toD x ≠ .tuple ds
instance : SortB Int := ⟨.inr fun x => ⟨(fun e => nomatch (show PyData.int x = .none from e)), fun ds e => nomatch (show PyData.int x = .tuple ds from e)⟩⟩
instance : SortB Str := ⟨.inr fun x => ⟨(fun e => nomatch (show PyData.str x = .none from e)), fun ds e => nomatch (show PyData.str x = .tuple ds from e)⟩⟩
section
variable {a b c : Type} [DecidableEq a] [Datum a] [DecidableEq b] [Datum b] [DecidableEq c] [Datum c]
instance : SortB (List a) := ⟨.inr fun x => ⟨(fun e => nomatch (show PyData.list _ = .none from e)), fun ds e => nomatch (show PyData.list _ = .tuple ds from e)⟩⟩
instance : SortB (a × b) := ⟨.inl fun x => ⟨_, _, rfl⟩⟩
instance : SortB (T3 a b c) := ⟨.inl fun x => ⟨_, _, rfl⟩⟩
end
/-- Python's order -/
def leT {a : Type} [DecidableEq a] [DatumOrd a] (x y : a) : Bool := !DatumOrd.lt y x
def sortT {a : Type} [DecidableEq a] [DatumOrd a] (xs : List a) : List a := xs.mergeSort leT
theorem dataLe_T {a β : Type} [DecidableEq a] [DatumOrd a] (f : β → a) : PySem.W.dataLe false (fun b => Datum.toD (f b)) = fun x y => leT (f x) (f y) := by
  funext x y
  rw [PySem.W.dataLe_eq]
  show (!PySem.W.dataLt (Datum.toD (f y)) (Datum.toD (f x))) = _
  rw [DatumOrd.lt_eq]
  rfl
section
variable {a : Type} [Py a] [DecidableEq a] [DatumOrd a] [IsD a] {H : Hp}
theorem each_pairs : ∀ {vs : List V} {xs : List a} {us : List Value}, RL H vs xs → Vals vs us → EachIs (fun (u : Value) (p : V × a) => RelV p.1 u ∧ R H p.1 p.2) us (vs.zip xs)
  | _, [], _, h, r => by
    rw [RL.nil_ h] at r ⊢
    cases r
    exact .nil
  | _, x :: xs, _, h, r => by
    obtain ⟨w, ws, rfl, h1, h2⟩ := RL.cons_ h
    cases r with
    | cons r1 r2 => exact .cons ⟨r1, h1⟩ (each_pairs h2 r2)
theorem pairs_vals : ∀ {ps : List (V × a)} {us : List Value}, EachIs (fun (u : Value) (p : V × a) => RelV p.1 u ∧ R H p.1 p.2) us ps → Vals (ps.map (·.1)) us ∧ RL H (ps.map (·.1)) (ps.map (·.2))
  | _, _, .nil => ⟨.nil, RL.nil⟩
  | _, _, .cons ⟨r1, h1⟩ t => ⟨.cons r1 (pairs_vals t).1, RL.cons h1 (pairs_vals t).2⟩
theorem each_imp {β γ : Type} {A B : β → γ → Prop} (f : ∀ x y, A x y → B x y) : ∀ {xs : List β} {ys : List γ}, EachIs A xs ys → EachIs B xs ys
  | _, _, .nil => .nil
  | _, _, .cons h t => .cons (f _ _ h) (each_imp f t)
theorem zip_snd : ∀ {vs : List V} {xs : List a}, vs.length = xs.length → (vs.zip xs).map (·.2) = xs
  | [], [], _ => rfl
  | v :: vs, x :: xs, h => by
    rw [List.zip_cons_cons, List.map_cons, zip_snd (by simpa using h)]
  | [], _ :: _, h => by simp at h
  | _ :: _, [], h => by simp at h
theorem sort_zip {vs : List V} {xs : List a} (h : vs.length = xs.length) : ((vs.zip xs).mergeSort fun p q => leT p.2 q.2).map (·.2) = sortT xs := by
  unfold sortT
  rw [List.map_mergeSort (s := leT) (fun _ _ _ _ => rfl), zip_snd h]
end
section
variable {a : Type} [Py a] [DecidableEq a] [DatumOrd a] [IsD a] {H : Hp}
def sortV (ws : List V) (xs : List a) : List V := ((ws.zip xs).mergeSort fun p q => leT p.2 q.2).map (·.1)
theorem RL.pairs : ∀ {ws : List V} {xs : List a}, RL H ws xs → ∀ p ∈ ws.zip xs, R H p.1 p.2
  | _, [], _, p, hp => by simp at hp
  | _, x :: xs, h, p, hp => by
    obtain ⟨w, ws, rfl, h1, h2⟩ := RL.cons_ h
    rw [List.zip_cons_cons] at hp
    rcases List.mem_cons.mp hp with rfl | hp
    · exact h1
    · exact RL.pairs h2 p hp
theorem RL.of_pairs : ∀ {ps : List (V × a)}, (∀ p ∈ ps, R H p.1 p.2) → RL H (ps.map (·.1)) (ps.map (·.2))
  | [], _ => RL.nil
  | p :: ps, h => RL.cons (h p List.mem_cons_self) (RL.of_pairs fun q hq => h q (List.mem_cons_of_mem _ hq))
theorem RL.sorted {ws : List V} {xs : List a} (h : RL H ws xs) : RL H (sortV ws xs) (sortT xs) := by
  have q : RL H (sortV ws xs) (((ws.zip xs).mergeSort fun p q => leT p.2 q.2).map (·.2)) := RL.of_pairs fun p hp => h.pairs p (List.mem_mergeSort.mp hp)
  rw [sort_zip h.len] at q
  exact q
end
section
variable {X : Cx} (a : Type) [Py a] [DecidableEq a] [DatumOrd a] [IsD a]
/-- sorted(xs) of a list: a new list -/
def rSortedT : List V → Hp → VK → Prop := fun vs H Q => ∃ (l : Addr) (ws : List V) (xs : List a), vs = [.ref l] ∧ H l = some (.lst ws) ∧ RL H ws xs ∧ ∀ (p : Addr), H p = none → Q (.ref p) (upd H p (.lst (sortV ws xs)))
theorem cr_sortedT [SortB a] (hu : X.A.units + 128 < cLine) (hd : Datum.depth a ≤ 100 := by decide) : CallR X (.builtin "sorted") (rSortedT a) := by
  intro pins s σ H vs us Q I r h
  obtain ⟨l, ws, xs, rfl, hl, hx, k⟩ := h
  obtain ⟨its, rv, hL, hz⟩ := I.list (SqL.of (K := X.K) hl)
  rw [Vals.ref1 r]
  have hlen : ws.length = xs.length := hx.len
  have hE := each_pairs hx rv
  refine PySem.W.sorted_data (bs := ws.zip xs) (enc := fun p => Datum.toD p.2) hL.isList hE (each_imp (fun u p hp => hp.2.holds I hp.1) hE) (PySem.W.AllAlike.of fun p q => DatumOrd.alike p.2 q.2) ?_ (by rw [List.length_zip, ← hlen, Nat.min_self]; exact hz) (fun p _ => ?_) fun out ho he => ?_
  · rcases SortB.ok (a := a) with q | q
    · exact PySem.W.Sortable.tuples fun p => q p.2
    · exact PySem.W.Sortable.others fun p => q p.2
  · have := Datum.depth_le p.2
    omega
  · rw [dataLe_T (fun p : V × a => p.2)] at he
    obtain ⟨q1, q2⟩ := pairs_vals he
    obtain ⟨ep, he'⟩ := PyProof.Rows.sortedAll_at s.heap its out.toArray
    refine ⟨.ref _, upd H (s.heap.objs.size + 1) (.lst _), I.laid (t' := s.toks) (fun _ _ => PyProof.Rows.sortedAll_old) (Nat.le_succ _) ⟨?_, out, ep, q1, he'⟩, rfl, k _ (I.hok.fresh (Nat.le_succ _))⟩
    rw [List.length_map, List.length_mergeSort, List.length_zip, ← hlen, Nat.min_self]
    exact hz
end
end PG

set_option Elab.async false
set_option linter.all false
set_option maxRecDepth 100000
set_option maxHeartbeats 4000000
namespace PG
open PySem PySem.Spec PyProof.Rows L2
open PySem.W (T3 T4 Datum DatumOrd Holds HoldAll EachIs)

instance (i j : Int) : Decidable (CMulW i j) := inferInstanceAs (Decidable (_ < _))
instance (i j : Int) : Decidable (CDivW i j) := inferInstanceAs (Decidable (_ ∧ _))
instance (i j : Int) : Decidable (CPow i j) := inferInstanceAs (Decidable (_ ∧ _ ∧ _))
theorem szl : sizeLine = 16777216 := sizeLine_eq
theorem lt_line {n : Nat} (h : n < 16777216) : n < sizeLine := by rw [szl]; exact h
theorem le_line {n : Nat} (h : n < 16777216) : n ≤ sizeLine := Nat.le_of_lt (lt_line h)
theorem len_line {vs : List V} (h : vs.length < 16777216 := by (show _ < 16777216); simp) : vs.length ≤ sizeLine := le_line h
theorem SqLF {K : PySem.W.Frag} {F H : Hp} {p : Addr} {vs : List V} (s : Same F H) (h : F p = some (.lst vs)) : SqL K H p vs := SqL.of (s _ _ h)
theorem SqTF {K : PySem.W.Frag} {F H : Hp} {p : Addr} {vs : List V} (s : Same F H) (h : F p = some (.tup vs)) : SqT K H p vs := SqT.of (s _ _ h)

/-! ### mirrors of what may go wrong -/
def setI {a : Type} (xs : List a) (i : Int) (y : a) : M (List a) := match ixN xs.length i with
  | some j => .ok (xs.set j y)
  | none => bad
def popI {a : Type} (xs : List a) (i : Int) : M (a × List a) := if xs.length < 16777216 then (match ixN xs.length i with
    | some j => (match xs[j]? with
      | some y => .ok (y, xs.eraseIdx j)
      | none => bad)
    | none => bad) else bad
def popL {a : Type} (xs : List a) : M (a × List a) := match xs[xs.length - 1]? with
  | some y => .ok (y, xs.dropLast)
  | none => bad
def appL {a : Type} (xs : List a) (y : a) : M (List a) := if xs.length < 16777216 then .ok (xs ++ [y]) else bad
def rangeL (lo hi : Int) : List Int := (List.range (hi - lo).toNat).map fun (i : Nat) => lo + (i : Int)
def okR (i : Int) : Prop := -1000000 ≤ i ∧ i ≤ 1000000
instance (i : Int) : Decidable (okR i) := inferInstanceAs (Decidable (_ ∧ _))
theorem okR.lo {i : Int} (h : okR i) : -(2 ^ 62) ≤ i := by obtain ⟨a, b⟩ := h; omega
theorem okR.hi {i : Int} (h : okR i) : i < 2 ^ 62 := by obtain ⟨a, b⟩ := h; omega
theorem rangeL_get {lo hi : Int} {i : Nat} (h : i < (hi - lo).toNat) : (rangeL lo hi).drop i = (lo + (i : Int)) :: (rangeL lo hi).drop (i + 1) := by
  unfold rangeL
  rw [List.drop_eq_getElem_cons (by simpa using h)]
  simp
theorem rangeL_end {lo hi : Int} : (rangeL lo hi).drop (hi - lo).toNat = [] := by
  rw [List.drop_eq_nil_iff]
  unfold rangeL
  simp
section
variable {a b : Type} {Q : a → Prop} {E : String → Prop} {H : Hp}
theorem wp_setI {xs : List b} {i : Int} {y : b} {k : List b → M a} (h : wp (setI xs i y >>= k) Q E) : ∃ j, ixN xs.length i = some j ∧ wp (k (xs.set j y)) Q E := by
  unfold setI at h
  cases e : ixN xs.length i with
  | none => rw [e] at h; exact h.elim
  | some j => rw [e] at h; exact ⟨j, rfl, h⟩
theorem wp_popI {xs : List b} {i : Int} {k : b × List b → M a} (h : wp (popI xs i >>= k) Q E) : ∃ j y, seqIndex? i xs.length = some j ∧ -(2 ^ 63) ≤ i ∧ i < 2 ^ 63 ∧ xs[j]? = some y ∧ wp (k (y, xs.eraseIdx j)) Q E := by
  unfold popI at h
  by_cases hl : xs.length < 16777216
  · rw [if_pos hl] at h
    cases e : ixN xs.length i with
    | none => rw [e] at h; exact h.elim
    | some j =>
      rw [e] at h
      have h : wp ((match xs[j]? with
        | some y => .ok (y, xs.eraseIdx j)
        | none => bad) >>= k) Q E := h
      cases e2 : xs[j]? with
      | none => rw [e2] at h; exact h.elim
      | some y =>
        rw [e2] at h
        obtain ⟨q1, q2, q3, q4⟩ := ixN_seq e
        exact ⟨j, y, q1, by omega, by omega, e2, h⟩
  · rw [if_neg hl] at h
    exact h.elim
theorem wp_popL {xs : List b} {k : b × List b → M a} (h : wp (popL xs >>= k) Q E) : ∃ y, xs[xs.length - 1]? = some y ∧ wp (k (y, xs.dropLast)) Q E := by
  unfold popL at h
  cases e : xs[xs.length - 1]? with
  | none => rw [e] at h; exact h.elim
  | some y => rw [e] at h; exact ⟨y, rfl, h⟩
theorem wp_appL {xs : List b} {y : b} {k : List b → M a} (h : wp (appL xs y >>= k) Q E) : xs.length < sizeLine ∧ wp (k (xs ++ [y])) Q E := by
  unfold appL at h
  by_cases hl : xs.length < 16777216
  · rw [if_pos hl] at h
    exact ⟨lt_line hl, h⟩
  · rw [if_neg hl] at h
    exact h.elim
end
/-! loops, by what is left to be done -/
section
variable {i s r a c : Type} {Q : a → Prop} {E : String → Prop}
theorem loopN_L {b : i → s → M s} {xs : List i} {x : s} {k : s → M a} (h : wp (loopN b xs x >>= k) Q E) :
    ∃ L : List i → s → Prop, L xs x ∧ (∀ y ys x, L (y :: ys) x → wp (b y x) (fun x' => L ys x') E) ∧ ∀ x, L [] x → wp (k x) Q E := by
  refine ⟨fun ys x => wp (loopN b ys x >>= k) Q E, h, fun y ys x hx => ?_, fun x hx => hx⟩
  have hx : wp (loopN b (y :: ys) x >>= k) Q E := hx
  rw [wp_bind] at hx
  have hx : wp (b y x >>= fun x' => loopN b ys x') (fun x => wp (k x) Q E) E := hx
  rw [wp_bind] at hx
  cases e : b y x with
  | ok z =>
    rw [e] at hx
    exact wp_bind.mpr hx
  | error e2 =>
    rw [e] at hx
    cases e2 <;> exact hx
theorem loopM_L {b : i → s → M (Fl s r)} {xs : List i} {x : s} {k : Fl s r → M a} (h : wp (loopM b xs x >>= k) Q E) :
    ∃ L : List i → s → Prop, L xs x ∧ (∀ y ys x, L (y :: ys) x → wp (b y x) (fun f => match f with
      | .nx x' => L ys x'
      | .rt z => wp (k (.rt z)) Q E) E) ∧ ∀ x, L [] x → wp (k (.nx x)) Q E := by
  refine ⟨fun ys x => wp (loopM b ys x >>= k) Q E, h, fun y ys x hx => ?_, fun x hx => hx⟩
  have hx : wp (loopM b (y :: ys) x >>= k) Q E := hx
  rw [wp_bind] at hx
  cases e : b y x with
  | ok z =>
    have hx : wp (b y x >>= fun f => match f with
      | .nx x' => loopM b ys x'
      | .rt z => .ok (.rt z)) (fun x => wp (k x) Q E) E := hx
    rw [e] at hx
    cases z with
    | nx z => exact wp_bind.mpr hx
    | rt z => exact hx
  | error e2 =>
    have hx : wp (b y x >>= fun f => match f with
      | .nx x' => loopM b ys x'
      | .rt z => .ok (.rt z)) (fun x => wp (k x) Q E) E := hx
    rw [e] at hx
    cases e2 <;> exact hx
theorem whileN_L {c : s → M Bool} {b : s → M s} {n : Nat} {x : s} {k : s → M a} (h : wp (whileN c b n x >>= k) Q E) :
    ∃ L : Nat → s → Prop, L n x ∧ ∀ m x, L m x → wp (c x) (fun t => if t = true then ∃ m', m' < m ∧ wp (b x) (fun x' => L m' x') E else wp (k x) Q E) E := by
  refine ⟨fun n x => wp (whileN c b n x >>= k) Q E, h, fun m x hx => ?_⟩
  cases m with
  | zero => exact hx.elim
  | succ m =>
    have hx : wp ((c x >>= fun t => if t = true then b x >>= fun x' => whileN c b m x' else .ok x) >>= k) Q E := hx
    rw [wp_bind, wp_bind] at hx
    cases e : c x with
    | error e2 => rw [e] at hx; cases e2 <;> exact hx
    | ok t =>
      rw [e] at hx
      cases t with
      | false => exact hx
      | true =>
        refine ⟨m, Nat.lt_succ_self m, ?_⟩
        have hx : wp (b x >>= fun x' => whileN c b m x') (fun x => wp (k x) Q E) E := hx
        rw [wp_bind] at hx
        cases e : b x with
        | error e2 => rw [e] at hx; cases e2 <;> exact hx
        | ok z =>
          rw [e] at hx
          exact wp_bind.mpr hx
theorem whileM_L {c : s → M Bool} {b : s → M (Fl s r)} {n : Nat} {x : s} {k : Fl s r → M a} (h : wp (whileM c b n x >>= k) Q E) :
    ∃ L : Nat → s → Prop, L n x ∧ ∀ m x, L m x → wp (c x) (fun t => if t = true then ∃ m', m' < m ∧ wp (b x) (fun f => match f with
      | .nx x' => L m' x'
      | .rt z => wp (k (.rt z)) Q E) E else wp (k (.nx x)) Q E) E := by
  refine ⟨fun n x => wp (whileM c b n x >>= k) Q E, h, fun m x hx => ?_⟩
  cases m with
  | zero => exact hx.elim
  | succ m =>
    have hx : wp ((c x >>= fun t => if t = true then b x >>= fun
      | .nx x' => whileM c b m x'
      | .rt z => .ok (.rt z)
    else .ok (.nx x)) >>= k) Q E := hx
    rw [wp_bind, wp_bind] at hx
    cases e : c x with
    | error e2 => rw [e] at hx; cases e2 <;> exact hx
    | ok t =>
      rw [e] at hx
      cases t with
      | false => exact hx
      | true =>
        refine ⟨m, Nat.lt_succ_self m, ?_⟩
        have hx : wp (b x >>= fun
          | .nx x' => whileM c b m x'
          | .rt z => .ok (.rt z)) (fun x => wp (k x) Q E) E := hx
        rw [wp_bind] at hx
        cases e : b x with
        | error e2 => rw [e] at hx; cases e2 <;> exact hx
        | ok z =>
          rw [e] at hx
          cases z with
          | nx z => exact wp_bind.mpr hx
          | rt z => exact hx
/-- a comprehension: what it has made so far, then the items left; no exception leaves it -/
def compX (b : i → s → M (Option c × s)) : List i → List c → s → M (List c × s)
  | [], acc, x => .ok (acc, x)
  | y :: ys, acc, x => nox (b y x) >>= fun p => compX b ys (match p.1 with
    | some z => acc ++ [z]
    | none => acc) p.2
/-- the list is short enough -/
def compS (b : i → s → M (Option c × s)) (xs : List i) (x : s) : M (List c × s) := chk (xs.length < 16777216) >>= fun _ => compX b xs [] x
theorem compX_L {b : i → s → M (Option c × s)} {k : List c × s → M a} : ∀ {xs : List i} {acc : List c} {x : s}, wp (compX b xs acc x >>= k) Q E →
    ∃ L : List i → List c → s → Prop, L xs acc x ∧ (∀ y ys acc x, L (y :: ys) acc x → wp (b y x) (fun p => L ys (match p.1 with
      | some z => acc ++ [z]
      | none => acc) p.2) (fun _ => False)) ∧ ∀ acc x, L [] acc x → wp (k (acc, x)) Q E := by
  intro xs acc x h
  refine ⟨fun ys acc x => wp (compX b ys acc x >>= k) Q E, h, fun y ys acc x hx => ?_, fun acc x hx => hx⟩
  have hx : wp ((nox (b y x) >>= fun p => compX b ys (match p.1 with
    | some z => acc ++ [z]
    | none => acc) p.2) >>= k) Q E := hx
  rw [wp_bind] at hx
  obtain ⟨p, e, hx⟩ := wp_nox hx
  rw [e]
  exact wp_bind.mpr hx
theorem compS_L {b : i → s → M (Option c × s)} {k : List c × s → M a} {xs : List i} {x : s} (h : wp (compS b xs x >>= k) Q E) : xs.length < 16777216 ∧
    ∃ L : List i → List c → s → Prop, L xs [] x ∧ (∀ y ys acc x, L (y :: ys) acc x → wp (b y x) (fun p => L ys (match p.1 with
      | some z => acc ++ [z]
      | none => acc) p.2) (fun _ => False)) ∧ ∀ acc x, L [] acc x → wp (k (acc, x)) Q E := by
  unfold compS at h
  rw [wp_bind] at h
  obtain ⟨h1, h2⟩ := wp_chk h
  exact ⟨h1, compX_L (wp_bind.mpr h2)⟩
end
theorem drop_at {a : Type} {xs : List a} {i : Nat} {x : a} (h : xs[i]? = some x) : xs.drop i = x :: xs.drop (i + 1) := by
  obtain ⟨h1, h2⟩ := List.getElem?_eq_some_iff.mp h
  rw [List.drop_eq_getElem_cons h1, h2]
theorem drop_end {a : Type} {xs : List a} {vs : List V} (h : vs.length = xs.length) : xs.drop vs.length = [] := by
  rw [h, List.drop_length]

/-! ### a def as it stands -/
structure Df (K : PySem.W.Frag) (mg : Str → Option Value) (x qual : Str) (st : Stmt) (ps : List Str) : Prop where
  ex : ∃ f fd, Fun K x qual st f fd ∧ mg x = some (.ref f) ∧ Binds K fd ps []
structure Ca (P : Program) (w : World) (K : PySem.W.Frag) (mg : Str → Option Value) (base : Heap) (x : Str) (k : Nat) (ps : List Str) (sp : Sp) : Prop where
  ex : ∃ f fd, FnOk P w K mg base (L2.CX P w) k f fd ps sp ∧ mg x = some (.ref f) ∧ PySem.W.keepIn K (.ref f) = true ∧ Binds K fd ps []
/-- an exception class of the program -/
structure Xc (K : PySem.W.Frag) (mg : Str → Option Value) (x : Str) (C : Addr) : Prop where
  g : mg x = some (.ref C)
  x : PySem.W.excIn K C [.type "ValueError", .type "Exception", .type "BaseException", .type "object"] "ValueError.__new__" = true
  k : PySem.W.keepIn K (.ref C) = true
  b : PySem.W.subIn K (.ref C) (.type "BaseException") = some true
  t : PySem.W.typeIn K (.ref C) = some (.type "type")
section
variable {P : Program} {w : World} {K : PySem.W.Frag} {mg : Str → Option Value} {base : Heap}
theorem Ca.mk' {x qual : Str} {st : Stmt} {N ps : List Str} {k : Nat} {sp : Sp} (D : Df K mg x qual st ps) (S : FnScope N ps (defScope st)) (len : ∀ vs H Q E, sp vs H Q E → vs.length = ps.length)
    (hbody : ∀ (qual' : Str) (f : Addr) (cdv : Value) (A : Around) (outer : List Env) (s : Shared) (H : Hp) (vs : List V) (Q : VK) (E : XK), Room k (A.deeper (envOfC qual (defScope st) s.heap.objs.size f cdv)) → sp vs H Q E →
      ∃ t, PSs (cxOf (L2.CX P w) P w K mg base N qual (defScope st) f cdv A outer s H E) (defBody st) t ∧ t { nx := fun _ H' => Q .non H', rt := Q } (start N vs) H) : Ca P w K mg base x (k + 1) ps sp := by
  obtain ⟨f, fd, F, m, b⟩ := D.ex
  exact ⟨f, fd, F.okX S len fun cdv A outer s H vs Q E hr h => hbody qual f cdv A outer s H vs Q E hr h, m, F.kp, b⟩
end
section
variable {X : Cx}
/-- len of a list or tuple -/
def rLenT : List V → Hp → VK → Prop := fun vs H Q => ∃ (l : Addr) (ws : List V) (n : Nat), vs = [.ref l] ∧ (H l = some (.lst ws) ∨ H l = some (.tup ws)) ∧ ws.length = n ∧ Q (.int n) H
theorem call_lenT : CallR X (.builtin "len") rLenT := by
  intro pins s σ H vs us Q I r h
  obtain ⟨l, ws, n, e, hl, rfl, k⟩ := h
  refine call_len_seq pins s σ H vs us Q I r ⟨l, ws, e, ?_, k⟩
  rcases hl with hl | hl
  · exact .inl (SqL.of hl)
  · exact .inr (SqT.of hl)
end

section
variable {Z : Ent} {F F' H H' : Hp} {cs : List (Addr × HO)} {p a : Addr} {o o' : HO}
theorem Ow.putE (O : Ow Z F cs H) (h : H p = none) (o : HO) : ∃ F', Ow Z F' cs (upd H p o) ∧ Same F F' ∧ F' p = some o := ⟨_, O.put h, O.putS h, upd_same⟩
theorem Ow.was (O : Ow Z F cs H) (h : H p = none) : Z.H p = none := by
  cases q : Z.H p with
  | none => rfl
  | some u => exact absurd h (O.g.t p (by rw [q]; simp))
theorem Ow.frzE (O : Ow Z F cs H) (i : Nat) (e : cs[i]? = some (a, o)) (hz : Z.H a = none) : ∃ F', Ow Z F' (cs.eraseIdx i) H ∧ Same F F' ∧ F' a = some o := ⟨_, O.frz i e hz, O.frzS i e, upd_same⟩
/-- a cell that a call made -/
theorem Ow.got (O : Ow Z F cs H) (O' : Ow Z F' cs' H') (hk : cs'.map (·.1) = cs.map (·.1)) (hn : H p = none) (hf : F' p = none) (h : H' p = some o) (ht : noTup o = true := by rfl) : Ow Z F' ((p, o) :: cs') H' :=
  O'.add O (fun c hc => by rw [← hk]; exact List.mem_map.mpr ⟨c, hc, rfl⟩) hn hf h ht
end
theorem rangeL_get0 {n : Int} {i : Nat} (h : i < n.toNat) : (rangeL 0 n).drop i = (0 + (i : Int)) :: (rangeL 0 n).drop (i + 1) := rangeL_get (by simpa using h)
theorem rangeL_end0 {n : Int} : (rangeL 0 n).drop n.toNat = [] := by
  have := rangeL_end (lo := 0) (hi := n)
  simpa using this
theorem iteD {c A B : Prop} [Decidable c] (h1 : c → A) (h2 : ¬ c → B) : if decide c = true then A else B := by
  by_cases h : c
  · rw [decide_eq_true h, if_pos rfl]; exact h1 h
  · rw [decide_eq_false h, if_neg Bool.false_ne_true]; exact h2 h
theorem iteN {c A B : Prop} [Decidable c] (h1 : c → B) (h2 : ¬ c → A) : if (!decide c) = true then A else B := by
  by_cases h : c
  · rw [decide_eq_true h]; exact h1 h
  · rw [decide_eq_false h]; exact h2 h
theorem iteB {b : Bool} {A B : Prop} (h1 : b = true → A) (h2 : ¬ b = true → B) : if b = true then A else B := by
  cases b with
  | true => exact h1 rfl
  | false => exact h2 Bool.false_ne_true
theorem iteBN {b : Bool} {A B : Prop} (h1 : b = true → B) (h2 : ¬ b = true → A) : if (!b) = true then A else B := by
  cases b with
  | true => exact h1 rfl
  | false => exact h2 Bool.false_ne_true
theorem iteNT {A B : Prop} (h : B) : if (!true) = true then A else B := h
theorem iteNF {A B : Prop} (h : A) : if (!false) = true then A else B := h
theorem wp_if {a : Type} {Q : a → Prop} {E : String → Prop} {c : Prop} [Decidable c] {x y : M a} (h : wp (if c then x else y) Q E) (hc : c) : wp x Q E := by
  rw [if_pos hc] at h
  exact h
theorem wp_el {a : Type} {Q : a → Prop} {E : String → Prop} {c : Prop} [Decidable c] {x y : M a} (h : wp (if c then x else y) Q E) (hc : ¬ c) : wp y Q E := by
  rw [if_neg hc] at h
  exact h

theorem hu128_of {A : Around} {k : Nat} (hr : Room k A) : A.units + 128 < cLine := by have := hr.un; omega
def cutL {a : Type} (xs : List a) (lo hi : Option Int) : List a := (xs.drop (HT.sIx xs.length 0 lo)).take (HT.sIx xs.length xs.length hi - HT.sIx xs.length 0 lo)
theorem RL.cutL {a : Type} [Py a] {H : Hp} {vs : List V} {xs : List a} (h : RL H vs xs) (lo hi : Option Int) : RL H (cutV vs lo hi) (PG.cutL xs lo hi) := h.cut lo hi
theorem RL.last {a : Type} [Py a] {H : Hp} {vs : List V} {xs : List a} {y : a} (h : RL H vs xs) (e : xs[xs.length - 1]? = some y) : ∃ w, vs[vs.length - 1]? = some w ∧ R H w y := by
  obtain ⟨w, e1, h1⟩ := h.get e
  exact ⟨w, by rw [h.len]; exact e1, h1⟩

theorem okR.rg1 {n : Int} (h : okR n) : RgOk 0 n := by
  obtain ⟨a, b⟩ := h
  exact ⟨by omega, by omega, by omega, by omega, by omega⟩
theorem rgV_eq (a b : Int) : rgV a b = (rangeL a b).map V.int := by
  unfold rgV rangeL
  rw [List.map_map]
  rfl
theorem RL.rg {H : Hp} {a b : Int} : RL H (rgV a b) (rangeL a b) := by
  rw [rgV_eq]
  exact RL.of_ints

theorem comp_len {b : Type} {w vs : List V} {xs : List b} {i : Nat} {x : V} (la : w.length ≤ i) (hi : vs[i]? = some x) (hl : vs.length = xs.length) (c : xs.length < 16777216) : w.length < sizeLine := by
  have := (List.getElem?_eq_some_iff.mp hi).1
  exact lt_line (by omega)
theorem rangeL_length (lo hi : Int) : (rangeL lo hi).length = (hi - lo).toNat := by
  unfold rangeL
  simp
theorem comp_lenR {w : List V} {lo hi : Int} {i n : Nat} (la : w.length ≤ i) (h : i < n) (e : (hi - lo).toNat = n) (c : (rangeL lo hi).length < 16777216) : w.length < sizeLine := by
  rw [rangeL_length] at c
  exact lt_line (by omega)
theorem tYes_ {σ : L2.St} {H : Hp} {Q : Bool → Hp → Prop} (h : Q true H) : tYes σ H Q := h

/-! lists of own lists of ints -/
abbrev LC := Addr × List Int
def lcell (c : LC) : Addr × HO := (c.1, .lst (c.2.map V.int))
theorem Ow.perm {Z : Ent} {F H : Hp} {cs cs' : List (Addr × HO)} (O : Ow Z F cs H) (h : cs.Perm cs') : Ow Z F cs' H where
  g := O.g
  cf := fun c hc => O.cf c (h.mem_iff.mpr hc)
  ch := fun c hc => O.ch c (h.mem_iff.mpr hc)
  nd := (h.map _).nodup_iff.mp O.nd
  ca := fun c hc => O.ca c (h.mem_iff.mpr hc)
  nt := fun c hc => O.nt c (h.mem_iff.mpr hc)
theorem Ow.sub {Z : Ent} {F H : Hp} {cs cs' : List (Addr × HO)} (O : Ow Z F cs H) (h : cs'.Sublist cs) : Ow Z F cs' H where
  g := O.g
  cf := fun c hc => O.cf c (h.subset hc)
  ch := fun c hc => O.ch c (h.subset hc)
  nd := O.nd.sublist (h.map _)
  ca := fun c hc => O.ca c (h.subset hc)
  nt := fun c hc => O.nt c (h.subset hc)
/-- a new list of new lists -/
structure OwnLL (H F' H' : Hp) (p : Addr) (ps : List LC) : Prop where
  pn : H p = none
  pf : F' p = none
  ph : H' p = some (.lst (ps.map fun c => V.ref c.1))
  qn : ∀ c ∈ ps, H c.1 = none
  qf : ∀ c ∈ ps, F' c.1 = none
  qh : ∀ c ∈ ps, H' c.1 = some (.lst (c.2.map V.int))
  nd : (p :: ps.map (·.1)).Nodup
theorem OwnLL.frz {F H F' H' : Hp} {p : Addr} {ps : List LC} {as : List Addr} (G : Gr as F H F' H') (L : OwnLL H F' H' p ps) :
    ∃ F2, Gr as F H F2 H' ∧ F2 p = none ∧ RL F2 (ps.map fun c => V.ref c.1) (ps.map (·.2)) := by
  refine ⟨fun b => if b ∈ ps.map (·.1) then H' b else F' b, ⟨fun b o e => ?_, fun b o e => ?_, G.k, G.t, fun b e => ?_, G.u⟩, ?_, ?_⟩
  · have h1 := G.f b o e
    by_cases hb : b ∈ ps.map (·.1)
    · obtain ⟨c, hc, rfl⟩ := List.mem_map.mp hb
      rw [L.qf c hc] at h1
      cases h1
    · show (if b ∈ ps.map (·.1) then H' b else F' b) = some o
      rw [if_neg hb]
      exact h1
  · have e : (if b ∈ ps.map (·.1) then H' b else F' b) = some o := e
    by_cases hb : b ∈ ps.map (·.1)
    · rw [if_pos hb] at e
      exact e
    · rw [if_neg hb] at e
      exact G.s b o e
  · show (if b ∈ ps.map (·.1) then H' b else F' b) = F b ∨ _
    have hb : b ∉ ps.map (·.1) := fun hb => by
      obtain ⟨c, hc, rfl⟩ := List.mem_map.mp hb
      exact e (L.qn c hc)
    rw [if_neg hb]
    exact G.n b e
  · show (if p ∈ ps.map (·.1) then H' p else F' p) = none
    rw [if_neg (List.nodup_cons.mp L.nd).1]
    exact L.pf
  · have all : ∀ l : List LC, (∀ c ∈ l, c ∈ ps) → RL (fun b => if b ∈ ps.map (·.1) then H' b else F' b) (l.map fun c => V.ref c.1) (l.map (·.2)) := by
      intro l
      induction l with
      | nil => intro _; exact RL.nil
      | cons c l ih =>
        intro h
        have hc := h c List.mem_cons_self
        refine RL.cons (R.lst (vs := c.2.map V.int) ?_ RL.of_ints) (ih fun d hd => h d (List.mem_cons_of_mem _ hd))
        show (if c.1 ∈ ps.map (·.1) then H' c.1 else F' c.1) = _
        rw [if_pos (List.mem_map.mpr ⟨c, hc, rfl⟩)]
        exact L.qh c hc
    exact all ps fun _ h => h
theorem FnOk.impC {P : Program} {w : World} {K : PySem.W.Frag} {mg : Str → Option Value} {base : Heap} {x : Str} {k : Nat} {ps : List Str} {sp sp' : Sp} (F : Ca P w K mg base x k ps sp) (h : ∀ vs H Q E, sp' vs H Q E → sp vs H Q E) : Ca P w K mg base x k ps sp' := by
  obtain ⟨f, fd, G, m, kp, b⟩ := F.ex
  exact ⟨f, fd, G.imp h, m, kp, b⟩
theorem wp_mono {a : Type} {Q Q' : a → Prop} {E : String → Prop} {m : M a} (h : wp m Q E) (f : ∀ r, Q r → Q' r) : wp m Q' E := wp_tail h (fun r _ q => f r q) fun _ e => e
/-- a scalar call that reads a cell: the cell is as it was, and nothing of the call is kept -/
theorem Ow.borrow {Z : Ent} {F F1 F' H H' : Hp} {cs : List (Addr × HO)} (O : Ow Z F cs H) (s1 : Same F F1) (g : Gr [] F1 H F' H') : Ow Z F cs H' where
  g := ⟨O.g.f, (s1.trans g.f).trans g.s, fun b o hb e => g.k b o (fun h => nomatch h) (O.g.k b o hb e), fun b e => g.t b (O.g.t b e), O.g.n, fun b xs e => by
    rcases g.u b xs e with z | z
    · refine .inl ?_
      cases q : Z.H b with
      | none => rfl
      | some u => exact absurd z (O.g.t b (by rw [q]; simp))
    · exact O.g.u b xs z⟩
  cf := O.cf
  ch := fun c hc => g.k _ _ (fun h => nomatch h) (O.ch c hc)
  nd := O.nd
  ca := O.ca
  nt := O.nt
theorem Ow.lend {Z : Ent} {F H : Hp} {cs : List (Addr × HO)} {a : Addr} {o : HO} (O : Ow Z F cs H) (i : Nat) (e : cs[i]? = some (a, o)) : ∃ F1, Same F F1 ∧ Pre F1 [] H ∧ F1 a = some o := by
  have m := List.mem_of_getElem? e
  refine ⟨upd F a o, Same.new (O.cf _ m), ⟨fun b u q => ?_, (fun _ h => nomatch h), (fun _ h => nomatch h), List.nodup_nil, fun _ h => nomatch h⟩, upd_same⟩
  by_cases hb : b = a
  · subst hb; rw [upd_same] at q; rw [← q]; exact O.ch _ m
  · rw [upd_ne hb] at q; exact O.s b u q

abbrev lrefs (ps : List LC) : List V := ps.map fun (c : LC) => V.ref c.1

def ret {a : Type} (x : a) : M a := .ok x
theorem wp_ret {a b : Type} {Q : a → Prop} {E : String → Prop} {x : b} {k : b → M a} (h : wp (ret x >>= k) Q E) : ∃ y, y = x ∧ wp (k y) Q E := ⟨x, rfl, h⟩

/-- tuples that stand may be read -/
theorem Ow.tups {Z : Ent} {F H : Hp} {cs : List (Addr × HO)} (O : Ow Z F cs H) (bs : List Addr) (h : ∀ b ∈ bs, ∃ xs, H b = some (.tup xs)) : ∃ F', Ow Z F' cs H ∧ Same F F' ∧ ∀ b ∈ bs, F' b = H b := by
  refine ⟨fun b => if b ∈ bs then H b else F b, ⟨⟨fun b o e => ?_, fun b o e => ?_, O.g.k, O.g.t, fun b e => ?_, O.g.u⟩, fun c hc => ?_, O.ch, O.nd, O.ca, O.nt⟩, fun b o e => ?_, fun b hb => if_pos hb⟩
  · have h1 := O.g.f b o e
    show (if b ∈ bs then H b else F b) = some o
    by_cases hb : b ∈ bs
    · rw [if_pos hb]; exact O.s b o h1
    · rw [if_neg hb]; exact h1
  · have e : (if b ∈ bs then H b else F b) = some o := e
    by_cases hb : b ∈ bs
    · rw [if_pos hb] at e; exact e
    · rw [if_neg hb] at e; exact O.s b o e
  · show (if b ∈ bs then H b else F b) = Z.F b ∨ _
    by_cases hb : b ∈ bs
    · obtain ⟨xs, hx⟩ := h b hb
      rcases O.g.u b xs hx with z | z
      · exact absurd z e
      · exact .inr ⟨xs, z⟩
    · rw [if_neg hb]; exact O.g.n b e
  · show (if c.1 ∈ bs then H c.1 else F c.1) = none
    by_cases hb : c.1 ∈ bs
    · obtain ⟨xs, hx⟩ := h c.1 hb
      have hn := O.nt c hc
      rw [O.ch c hc] at hx
      rw [Option.some.inj hx] at hn
      cases hn
    · rw [if_neg hb]; exact O.cf c hc
  · show (if b ∈ bs then H b else F b) = some o
    by_cases hb : b ∈ bs
    · rw [if_pos hb]; exact O.s b o e
    · rw [if_neg hb]; exact e
end PG

set_option Elab.async false
set_option linter.all false
set_option maxRecDepth 100000
set_option maxHeartbeats 4000000
namespace PG
open PySem PySem.Spec PyProof.Rows L2
open PySem.W (T3 T4 Datum DatumOrd Holds HoldAll EachIs)

theorem u1_of {n : Nat} (h : n + 64 < cLine) : n + 1 < cLine := Nat.lt_of_le_of_lt (Nat.add_le_add_left (by decide) _) h
/-! ### dicts: what stands for a key -/
class DK (κ : Type) (K' : outParam Type) where
  kk : κ → K'
  inj : ∀ a b, kk a = kk b → a = b
instance : DK Int Key := ⟨Sum.inl, fun _ _ h => Sum.inl.inj h⟩
instance : DK Str Key := ⟨Sum.inr, fun _ _ h => Sum.inr.inj h⟩
instance : DK (Int × Int) (List Key) := ⟨fun p => [.inl p.1, .inl p.2], fun a b h => by
  injection h with h1 h2
  injection h2 with h2 _
  exact Prod.ext (Sum.inl.inj h1) (Sum.inl.inj h2)⟩
section
variable {κ K' β : Type} [DK κ K'] [Py β]
inductive RD (F : Hp) : List (K' × V) → List (κ × β) → Prop
  | nil : RD F [] []
  | cons {k : κ} {v : V} {y : β} {kvs : List (K' × V)} {xs : List (κ × β)} : R F v y → RD F kvs xs → RD F ((DK.kk k, v) :: kvs) ((k, y) :: xs)
variable {F F' : Hp}
theorem RD.mono {kvs : List (K' × V)} {xs : List (κ × β)} (h : RD F kvs xs) (s : Same F F') : RD F' kvs xs := by
  induction h with
  | nil => exact .nil
  | cons h _ ih => exact .cons (h.mono s) ih
theorem RD.len {kvs : List (K' × V)} {xs : List (κ × β)} (h : RD F kvs xs) : kvs.length = xs.length := by
  induction h with
  | nil => rfl
  | cons h _ ih => rw [List.length_cons, List.length_cons, ih]
theorem RD.keys {kvs : List (K' × V)} {xs : List (κ × β)} (h : RD F kvs xs) : kvs.map (·.1) = (xs.map (·.1)).map DK.kk := by
  induction h with
  | nil => rfl
  | cons h _ ih => rw [List.map_cons, List.map_cons, List.map_cons, ih]
end
section
variable {κ K' β : Type} [DK κ K'] [DecidableEq κ] [DecidableEq K'] [Py β] {F F' : Hp}
def dGet (xs : List (κ × β)) (k : κ) : Option β := (xs.find? fun p => decide (p.1 = k)).map (·.2)
def dPut (xs : List (κ × β)) (k : κ) (y : β) : List (κ × β) :=
  if (xs.any fun p => decide (p.1 = k)) = true then xs.map (fun p => if p.1 = k then (p.1, y) else p) else xs ++ [(k, y)]
def dHas (xs : List (κ × β)) (k : κ) : Bool := (dGet xs k).isSome
theorem kk_dec {a b : κ} : decide ((DK.kk a : K') = DK.kk b) = decide (a = b) := by
  by_cases h : a = b
  · subst h; simp
  · rw [decide_eq_false h, decide_eq_false fun z => h (DK.inj a b z)]
theorem dGet_pos {p : κ × β} {r : List (κ × β)} {k : κ} (e : p.1 = k) : dGet (p :: r) k = some p.2 := by simp [dGet, List.find?_cons, e]
theorem dGet_neg {p : κ × β} {r : List (κ × β)} {k : κ} (e : ¬ p.1 = k) : dGet (p :: r) k = dGet r k := by simp [dGet, List.find?_cons, e]
theorem RD.get {kvs : List (K' × V)} {xs : List (κ × β)} (h : RD F kvs xs) (k : κ) :
    (dGet xs k = none ∧ valV kvs (DK.kk k) = none) ∨ ∃ y v, dGet xs k = some y ∧ valV kvs (DK.kk k) = some v ∧ R F v y := by
  induction h with
  | nil => exact .inl ⟨rfl, rfl⟩
  | @cons j v y kvs xs h hs ih =>
    by_cases e : j = k
    · exact .inr ⟨y, v, dGet_pos e, valV_pos (by rw [e]), h⟩
    · rw [dGet_neg (p := (j, y)) e, valV_neg (fun z => e (DK.inj j k z))]
      exact ih
theorem RD.some {kvs : List (K' × V)} {xs : List (κ × β)} (h : RD F kvs xs) {k : κ} {y : β} (e : dGet xs k = some y) : ∃ v, valV kvs (DK.kk k) = some v ∧ R F v y := by
  rcases h.get k with ⟨a, _⟩ | ⟨y', v, a, b, c⟩
  · rw [e] at a; cases a
  · rw [e] at a; cases a; exact ⟨v, b, c⟩
theorem RD.is {kvs : List (K' × V)} {xs : List (κ × β)} (h : RD F kvs xs) (k : κ) : (valV kvs (DK.kk k)).isSome = dHas xs k := by
  unfold dHas
  rcases h.get k with ⟨a, b⟩ | ⟨y', v, a, b, c⟩
  · rw [a, b]; rfl
  · rw [a, b]; rfl
theorem RD.map {kvs : List (K' × V)} {xs : List (κ × β)} (h : RD F kvs xs) (k : κ) {v : V} {y : β} (hv : R F v y) :
    RD F (kvs.map fun kv => if kv.1 = DK.kk k then (kv.1, v) else kv) (xs.map fun p => if p.1 = k then (p.1, y) else p) := by
  induction h with
  | nil => exact .nil
  | @cons j u z kvs xs h hs ih =>
    rw [List.map_cons, List.map_cons]
    by_cases e : j = k
    · rw [if_pos e, if_pos (show (DK.kk j, u).1 = DK.kk k by rw [e])]
      exact .cons hv ih
    · rw [if_neg e, if_neg (show ¬ (DK.kk j, u).1 = DK.kk k from fun z => e (DK.inj j k z))]
      exact .cons h ih
theorem RD.snoc {kvs : List (K' × V)} {xs : List (κ × β)} (h : RD F kvs xs) (k : κ) {v : V} {y : β} (hv : R F v y) : RD F (kvs ++ [(DK.kk k, v)]) (xs ++ [(k, y)]) := by
  induction h with
  | nil => exact .cons hv .nil
  | cons h _ ih => exact .cons h ih
theorem RD.any {kvs : List (K' × V)} {xs : List (κ × β)} (h : RD F kvs xs) (k : κ) : (kvs.any fun kv => decide (kv.1 = DK.kk k)) = (xs.any fun p => decide (p.1 = k)) := by
  induction h with
  | nil => rfl
  | @cons j u z kvs xs h hs ih => rw [List.any_cons, List.any_cons, ih, kk_dec]
theorem RD.put {kvs : List (K' × V)} {xs : List (κ × β)} (h : RD F kvs xs) (k : κ) {v : V} {y : β} (hv : R F v y) : RD F (putK kvs (DK.kk k) v) (dPut xs k y) := by
  unfold putK dPut
  rw [h.any k]
  by_cases e : (xs.any fun p => decide (p.1 = k)) = true
  · rw [if_pos e, if_pos e]; exact h.map k hv
  · rw [if_neg e, if_neg e]; exact h.snoc k hv
def putD (xs : List (κ × β)) (k : κ) (y : β) : M (List (κ × β)) := if xs.length < 16777216 then .ok (dPut xs k y) else bad
theorem wp_putD {a : Type} {Q : a → Prop} {E : String → Prop} {xs : List (κ × β)} {j : κ} {y : β} {k : List (κ × β) → M a} (h : wp (putD xs j y >>= k) Q E) : xs.length < sizeLine ∧ wp (k (dPut xs j y)) Q E := by
  unfold putD at h
  by_cases hl : xs.length < 16777216
  · rw [if_pos hl] at h
    exact ⟨lt_line hl, h⟩
  · rw [if_neg hl] at h
    exact h.elim
end
/-- a dict that is read alone -/
class DO (K' : Type) where
  ho : List (K' × V) → HO
instance : DO Key := ⟨.dK⟩
instance : DO (List Key) := ⟨.dT⟩
section
variable {κ K' β : Type} [DK κ K'] [Py β] [DO K'] {F F' H : Hp} {v : V} {a b : Addr}
def RDv (F : Hp) (v : V) (xs : List (κ × β)) : Prop := ∃ (a : Addr) (kvs : List (K' × V)), v = .ref a ∧ F a = some (DO.ho kvs) ∧ RD F kvs xs
theorem RDv.mono {xs : List (κ × β)} (h : RDv F v xs) (s : Same F F') : RDv F' v xs := by
  obtain ⟨a, kvs, e, h1, h2⟩ := h
  exact ⟨a, kvs, e, s _ _ h1, h2.mono s⟩
theorem RDv.mk {xs : List (κ × β)} {kvs : List (K' × V)} (h : F a = some (DO.ho kvs)) (hr : RD F kvs xs) : RDv F (.ref a) xs := ⟨a, kvs, rfl, h, hr⟩
end
section
variable {β : Type} [Py β] {F H : Hp} {a b : Addr}
theorem dget_T {kvs : List (List Key × V)} {i j : Int} {v : V} (e : H a = some (.dT kvs)) (eb : H b = some (.tup [.int i, .int j])) (hv : valV kvs (DK.kk (i, j)) = some v) : DGet H a (.ref b) (some v) := by
  rw [← hv]
  exact DGet.t (k := [.inl i, .inl j]) e eb
theorem dget_I {kvs : List (Key × V)} {i : Int} {v : V} (e : H a = some (.dK kvs)) (hv : valV kvs (DK.kk i) = some v) : DGet H a (.int i) (some v) := by
  rw [← hv]
  exact DGet.k (k := .inl i) e
theorem dget_S {kvs : List (Key × V)} {i : Str} {v : V} (e : H a = some (.dK kvs)) (hv : valV kvs (DK.kk i) = some v) : DGet H a (.str i) (some v) := by
  rw [← hv]
  exact DGet.k (k := .inr i) e
theorem din_T {kvs : List (List Key × V)} {i j : Int} {xs : List ((Int × Int) × β)} (e : H a = some (.dT kvs)) (eb : H b = some (.tup [.int i, .int j])) (hr : RD F kvs xs) : ∃ o, DGet H a (.ref b) o ∧ o.isSome = dHas xs (i, j) :=
  ⟨_, DGet.t (k := [.inl i, .inl j]) e eb, hr.is (i, j)⟩
theorem din_I {kvs : List (Key × V)} {i : Int} {xs : List (Int × β)} (e : H a = some (.dK kvs)) (hr : RD F kvs xs) : ∃ o, DGet H a (.int i) o ∧ o.isSome = dHas xs i :=
  ⟨_, DGet.k (k := .inl i) e, hr.is i⟩
theorem din_S {kvs : List (Key × V)} {i : Str} {xs : List (Str × β)} (e : H a = some (.dK kvs)) (hr : RD F kvs xs) : ∃ o, DGet H a (.str i) o ∧ o.isSome = dHas xs i :=
  ⟨_, DGet.k (k := .inr i) e, hr.is i⟩
theorem dput_T {kvs : List (List Key × V)} {i j : Int} {v : V} (e : H a = some (.dT kvs)) (eb : H b = some (.tup [.int i, .int j])) (hl : kvs.length < sizeLine) : DPut H a (.ref b) v (upd H a (.dT (putK kvs (DK.kk (i, j)) v))) := DPut.t (k := [.inl i, .inl j]) e eb hl
theorem dput_I {kvs : List (Key × V)} {i : Int} {v : V} (e : H a = some (.dK kvs)) (hl : kvs.length < sizeLine) : DPut H a (.int i) v (upd H a (.dK (putK kvs (DK.kk i) v))) := DPut.k (k := .inl i) e hl
theorem dput_S {kvs : List (Key × V)} {i : Str} {v : V} (e : H a = some (.dK kvs)) (hl : kvs.length < sizeLine) : DPut H a (.str i) v (upd H a (.dK (putK kvs (DK.kk i) v))) := DPut.k (k := .inr i) e hl
end
/-! sorted(d), the keys pairs of whole numbers -/
theorem keys_tups {H : Hp} {kvs : List (List Key × V)} {bs : List Addr} (h : IsKeys H kvs bs) : ∀ b ∈ bs, ∃ xs, H b = some (.tup xs) := by
  unfold IsKeys at h
  induction h with
  | nil => intro b hb; simp at hb
  | cons h t ih =>
    intro c hc
    rcases List.mem_cons.mp hc with rfl | hc
    · exact ⟨_, h⟩
    · exact ih c hc
theorem keys_rl {H : Hp} {kvs : List (List Key × V)} {bs : List Addr} (h : IsKeys H kvs bs) : ∀ {ks : List (Int × Int)}, kvs.map (·.1) = ks.map DK.kk → RL H (bs.map V.ref) ks := by
  unfold IsKeys at h
  induction h with
  | nil =>
    intro ks e
    cases ks with
    | nil => exact RL.nil
    | cons k ks => simp at e
  | cons h t ih =>
    intro ks e
    cases ks with
    | nil => simp at e
    | cons k ks =>
      rw [List.map_cons, List.map_cons] at e
      injection e with e1 e2
      rw [e1] at h
      exact RL.cons (R.t2 h R.int R.int) (ih e2)
theorem keys_in {H F : Hp} {kvs : List (List Key × V)} {bs : List Addr} {ks : List (Int × Int)} (h : IsKeys H kvs bs) (hf : ∀ b ∈ bs, F b = H b) (e : kvs.map (·.1) = ks.map DK.kk) : RL F (bs.map V.ref) ks := by
  refine keys_rl ?_ e
  unfold IsKeys at h ⊢
  clear e
  induction h with
  | nil => exact .nil
  | @cons x b xs bs h t ih =>
    refine .cons ?_ (ih fun c hc => hf c (List.mem_cons_of_mem _ hc))
    rw [hf b List.mem_cons_self]
    exact h
section
variable {X : Cx}
theorem cr_sortedDT (hcalm : X.calm = true) (hu : X.A.units + 128 < cLine) : CallR X (.builtin "sorted") (fun xs H Q => ∃ (d : Addr) (kvs : List (List Key × V)) (ks : List (Int × Int)), xs = [.ref d] ∧ H d = some (.dT kvs) ∧ kvs.map (·.1) = ks.map DK.kk ∧
    ∀ (bs : List Addr) (p : Addr), IsKeys H kvs bs → H p = none → Q (.ref p) (upd H p (.lst (sortV (bs.map V.ref) ks)))) := by
  intro pins s σ H xs us Q I r q
  obtain ⟨d, kvs, ks', ex, hd, hks, q⟩ := q
  subst ex
  obtain ⟨u, eu, rx⟩ := vals1 r
  subst eu
  cases rx
  obtain ⟨z, hs, ks, pr, o, es, ep, ho, hx, hdt, he, hn⟩ := (show ObjOk X.prog X.w H s.heap d (.dT kvs) from I.hok d _ hd)
  have l1 : es.size = ks.length := size_of_entries he
  have l2 : kvs.length = ks.length := Paired.length pr
  refine Calls.call_function_entry PyProof.Rows.kind_sorted PyProof.Rows.plain_sorted PyProof.Rows.entry_sorted (PyProof.Rows.args_sorted1 _) ?_
  unfold Builtin.«sorted»
  refine wpAny_bind (m := checkCount "sorted" 1 1 _) (wpAny_pure ?_)
  refine wpAny_bind (PySem.W.kdu_collect (A := X.A.in1) (kdl_raw hs hx hdt) (I.ok.hd hcalm) ho (by omega) fun h' tk acc kp it => ?_)
  have ea : acc.toList = ks.map fun x => Value.ref x.2.1 := by
    have hl : acc.toList.length = ks.length := by rw [Array.length_toList, it.1]; exact l1
    apply List.ext_getElem?
    intro j
    rw [List.getElem?_map]
    cases hj : acc.toList[j]? with
    | none =>
      have h1 := List.getElem?_eq_none_iff.mp hj
      rw [List.getElem?_eq_none (by omega)]
      all_goals rfl
    | some v =>
      obtain ⟨en, hen, hv⟩ := it.2 j v (by rw [← Array.getElem?_toList]; exact hj)
      have qe := entry_at he j
      rw [hen] at qe
      cases hb : ks[j]? with
      | none =>
        rw [hb] at qe
        exact nomatch (show some en = none from qe)
      | some b =>
        rw [hb] at qe
        have e2 : en = entryOfKey (tupleKind (mixKind X.prog X.w)) b := Option.some.inj qe
        rw [hv, e2]
        all_goals rfl
  have eb : acc.toList = (ks.map fun (x : List Key × Addr × Value) => x.2.1).map Value.ref := by rw [ea, List.map_map]; all_goals rfl
  have rv : Vals ((ks.map fun (x : List Key × Addr × Value) => x.2.1).map V.ref) acc.toList := by rw [eb]; exact vals_refs _
  have hik : IsKeys H kvs (ks.map fun (x : List Key × Addr × Value) => x.2.1) := isKeys_of pr
  have hrl := keys_rl hik hks
  have hlen : ((ks.map fun (x : List Key × Addr × Value) => x.2.1).map V.ref).length = ks'.length := hrl.len
  have hal : acc.toList.length = ks.length := by rw [ea, List.length_map]
  have I1 : Inv X pins σ H { s with heap := h', toks := tk } := I.kept kp
  have hE := each_pairs hrl rv
  have hR : EachIs (fun u (p : V × (Int × Int)) => ∃ as, PySem.Reads h' u (Datum.toD p.2) as) acc.toList (((ks.map fun (x : List Key × Addr × Value) => x.2.1).map V.ref).zip ks') := each_imp (fun u p hp => hp.2.holds I1 hp.1) hE
  have hoL : (h'.push (seqObj "list" acc.toList.toArray 0)).get? h'.objs.size = some (seqObj "list" acc.toList.toArray 0) := Heap.get?_push_size _ rfl
  have hz : acc.toList.length ≤ sizeLine := by rw [hal]; omega
  refine wpAny_bind (wpAny_newList ?_ hz)
  show wpAny _ _ _ _ _ { s with heap := h'.push (seqObj "list" acc.toList.toArray 0), toks := tk }
  have er' : EachIs (fun v (p : V × (Int × Int)) => ∃ as, PySem.Reads (PySem.W.sortingHeap (h'.push (seqObj "list" acc.toList.toArray 0)) h'.objs.size acc.toList) v (Datum.toD p.2) as) acc.toList (((ks.map fun (x : List Key × Addr × Value) => x.2.1).map V.ref).zip ks') :=
    hR.mono fun _ _ ⟨as, r⟩ => ⟨as, PyProof.Rows.Reads.keeps (fun b o e => PySem.W.sortingHeap_old (Nat.ne_of_lt (Heap.lt_size e)) (Heap.get?_push_of_some _ e)) r⟩
  have hal2 : PySem.W.AllAlike ((((ks.map fun (x : List Key × Addr × Value) => x.2.1).map V.ref).zip ks').map fun p => Datum.toD p.2) := PySem.W.AllAlike.of fun p q => DatumOrd.alike p.2 q.2
  refine wpAny_bind (wpAny_holding (wpAny_call_entry PyProof.Rows.slot_list_sort ⟨_, hoL, rfl⟩ PyProof.Rows.entry_list_sort
    (PySem.W.list_sort_vals (κ := PySem.W.dataKind (PySem.W.sortingHeap (h'.push (seqObj "list" acc.toList.toArray 0)) h'.objs.size acc.toList) ((((ks.map fun (x : List Key × Addr × Value) => x.2.1).map V.ref).zip ks').map fun p => Datum.toD p.2)) (s := { s with heap := h'.push (seqObj "list" acc.toList.toArray 0), toks := tk }) hoL
      (PySem.W.SortsAt.data (s := { s with heap := PySem.W.sortingHeap (h'.push (seqObj "list" acc.toList.toArray 0)) h'.objs.size acc.toList, toks := tk }) (PySem.W.each_map (R := fun v d => ∃ as, PySem.Reads (PySem.W.sortingHeap (h'.push (seqObj "list" acc.toList.toArray 0)) h'.objs.size acc.toList) v d as) (fun (p : V × (Int × Int)) => Datum.toD p.2) er') hal2 ?_ ?_) hz ⟨_, rfl, ?_⟩)
    (PyProof.Rows.args_list_sort _)))
  · exact PySem.W.Sortable.tuples fun p => ⟨_, _, rfl⟩
  · intro dd hdd
    obtain ⟨p, _, rfl⟩ := List.mem_map.mp hdd
    have hdp : Datum.depth (Int × Int) ≤ 100 := by decide
    have := Datum.depth_le p.2
    have hA : X.A.in1.in1.units ≤ X.A.units + 2 := by simp [Around.in1]
    omega
  · have he2 := PySem.W.sortVals_data (R := fun (u : Value) (p : V × (Int × Int)) => RelV p.1 u ∧ R H p.1 p.2) (enc := fun p => Datum.toD p.2) false hE er' hal2
    rw [dataLe_T (fun p : V × (Int × Int) => p.2)] at he2
    obtain ⟨q1, q2⟩ := pairs_vals he2
    obtain ⟨e', he'⟩ := PyProof.Rows.sortedHeap_at (vs := acc.toList) (out := (PySem.W.sortVals (PySem.W.dataKind (PySem.W.sortingHeap (h'.push (seqObj "list" acc.toList.toArray 0)) h'.objs.size acc.toList) ((((ks.map fun (x : List Key × Addr × Value) => x.2.1).map V.ref).zip ks').map fun p => Datum.toD p.2)) false acc.toList acc.toList).toArray) hoL
    refine wpAny_pure ⟨_, rfl, .ref h'.objs.size, upd H h'.objs.size (.lst (sortV ((ks.map fun (x : List Key × Addr × Value) => x.2.1).map V.ref) ks')), I1.laid (t' := tk) (fun b u e => ?_) (Nat.le_refl _)
      (show ObjOk X.prog X.w _ _ _ (.lst _) from ⟨?_, _, e', q1, he'⟩), rfl, q _ _ hik (I1.hok.fresh (Nat.le_refl _))⟩
    · have hb : b < h'.objs.size := Heap.lt_size e
      rw [PyProof.Rows.sortedHeap_old (Nat.ne_of_lt hb) (by rw [size_push']; exact Nat.lt_succ_of_lt hb)]
      exact Heap.get?_push_of_some _ e
    · unfold sortV
      rw [List.length_map, List.length_mergeSort, List.length_zip, hlen, Nat.min_self, ← hlen, List.length_map, List.length_map]
      omega
end
end PG

set_option Elab.async false
set_option linter.all false
set_option maxRecDepth 100000
set_option maxHeartbeats 4000000
namespace PG
open PySem PySem.Spec PyProof.Rows L2
open PySem.W (T3 T4 Datum DatumOrd Holds HoldAll EachIs)

/-! ### a list of two things of two kinds -/
structure HL2 (a b : Type) where
  a : a
  b : b
  deriving DecidableEq
theorem HL2.same {a b : Type} : ∀ {p q : HL2 a b}, p.a = q.a → p.b = q.b → p = q
  | ⟨_, _⟩, ⟨_, _⟩, rfl, rfl => rfl
section
variable {α β : Type} [DecidableEq α] [Datum α] [DecidableEq β] [Datum β]
instance : Datum (HL2 α β) where
  toD p := .list [Datum.toD p.a, Datum.toD p.b]
  plain p := by simp only [PyData.plain, PyData.plainAll, Datum.plain, Bool.and_self]
  eqv p q := by
    simp only [PyData.eqv, PyData.eqvAll]
    rw [Datum.eqv, Datum.eqv, Bool.and_true, ← Bool.decide_and]
    exact decide_eq_decide.mpr ⟨fun e => HL2.same e.1 e.2, fun e => by rw [e]; exact ⟨rfl, rfl⟩⟩
  depth := max (Datum.depth α) (Datum.depth β) + 1
  depth_le p := by
    simp only [PyData.depth, PyData.depthAll]
    have h0 := Datum.depth_le p.a
    have h1 := Datum.depth_le p.b
    omega
end
instance {a b : Type} [Py a] [Py b] : Py (HL2 a b) := ⟨fun p => .list [Py.toD p.a, Py.toD p.b]⟩
section
variable {a b : Type} [Py a] [DecidableEq a] [Datum a] [IsD a] [Py b] [DecidableEq b] [Datum b] [IsD b]
instance : IsD (HL2 a b) := ⟨fun p => by show PyData.list [_, _] = PyData.list [_, _]; rw [IsD.eq, IsD.eq]⟩
end
theorem R.hl2 {a b : Type} [Py a] [Py b] {H : Hp} {p : Addr} {x : HL2 a b} {v1 v2 : V} (ha : H p = some (.lst [v1, v2])) (h1 : R H v1 x.a) (h2 : R H v2 x.b) : R H (.ref p) x := Rep.lst ha (.cons h1 (.cons h2 .nil))
/-! ### data without lists within -/
class NoL (a : Type) [Py a] : Prop where
  mv : ∀ (F F' : Hp), (∀ b xs, F b = some (.tup xs) → F' b = some (.tup xs)) → ∀ (v : V) (x : a), R F v x → R F' v x
instance : NoL Int := ⟨fun _ _ _ _ _ h => by rw [R.int_ h]; exact R.int⟩
instance : NoL Bool := ⟨fun _ _ _ _ _ h => by rw [R.bl_ h]; exact R.bl⟩
instance : NoL Str := ⟨fun _ _ _ _ _ h => by rw [R.str_ h]; exact R.str⟩
instance {a b : Type} [Py a] [Py b] [NoL a] [NoL b] : NoL (a × b) := ⟨fun _ _ t _ _ h => by
  obtain ⟨p, v1, v2, rfl, hp, h1, h2⟩ := R.t2_ h
  exact R.t2 (t _ _ hp) (NoL.mv _ _ t _ _ h1) (NoL.mv _ _ t _ _ h2)⟩
instance {a b c : Type} [Py a] [Py b] [Py c] [NoL a] [NoL b] [NoL c] : NoL (T3 a b c) := ⟨fun _ _ t _ _ h => by
  obtain ⟨p, v1, v2, v3, rfl, hp, h1, h2, h3⟩ := R.t3_ h
  exact R.t3 (t _ _ hp) (NoL.mv _ _ t _ _ h1) (NoL.mv _ _ t _ _ h2) (NoL.mv _ _ t _ _ h3)⟩
theorem RL.mv {a : Type} [Py a] [NoL a] {F F' : Hp} (t : ∀ b xs, F b = some (.tup xs) → F' b = some (.tup xs)) : ∀ {vs : List V} {xs : List a}, RL F vs xs → RL F' vs xs
  | _, [], h => by rw [RL.nil_ h]; exact RL.nil
  | _, x :: xs, h => by
    obtain ⟨w, ws, rfl, h1, h2⟩ := RL.cons_ h
    exact RL.cons (NoL.mv _ _ t _ _ h1) (RL.mv t h2)
/-! ### cells lent to a call -/
open Classical in
noncomputable def lendF (as : List Addr) (F H : Hp) : Hp := fun b => if b ∈ as then H b else F b
open Classical in
noncomputable def backF (as : List Addr) (F : Hp) : Hp := fun b => if b ∈ as then none else F b
section
variable {Z : Ent} {F F' H H' : Hp} {cs : List (Addr × HO)} {p a q : Addr} {o o' : HO} {as : List Addr}
theorem inA_nil : ∀ b ∈ ([] : List Addr), ∃ o, (b, o) ∈ cs := fun _ h => nomatch h
theorem inA_cons (i : Nat) (e : cs[i]? = some (a, o)) (h : ∀ b ∈ as, ∃ o, (b, o) ∈ cs) : ∀ b ∈ a :: as, ∃ o, (b, o) ∈ cs := fun b hb => by
  rcases List.mem_cons.mp hb with rfl | hb
  · exact ⟨o, List.mem_of_getElem? e⟩
  · exact h b hb
theorem lendF_at (h : a ∈ as) : lendF as F H a = H a := if_pos h
theorem Ow.lendS (O : Ow Z F cs H) (hin : ∀ b ∈ as, ∃ o, (b, o) ∈ cs) : Same F (lendF as F H) := fun b u e => by
  by_cases hb : b ∈ as
  · obtain ⟨o, hc⟩ := hin b hb
    have := O.cf _ hc
    have e' : F b = none := this
    rw [e'] at e; cases e
  · show (if b ∈ as then H b else F b) = _
    rw [if_neg hb]; exact e
theorem Ow.lendP (O : Ow Z F cs H) (hin : ∀ b ∈ as, ∃ o, (b, o) ∈ cs) : Pre (lendF as F H) [] H := by
  refine ⟨fun b u e => ?_, (fun _ h => nomatch h), (fun _ h => nomatch h), List.nodup_nil, fun _ h => nomatch h⟩
  have e : (if b ∈ as then H b else F b) = some u := e
  by_cases hb : b ∈ as
  · rw [if_pos hb] at e; exact e
  · rw [if_neg hb] at e; exact O.s b u e
theorem Ow.unlend (O : Ow Z F cs H) (hin : ∀ b ∈ as, ∃ o, (b, o) ∈ cs) (g : Gr [] (lendF as F H) H F' H') :
    Ow Z (backF as F') cs H' ∧ Same F (backF as F') ∧ (∀ b xs, F' b = some (.tup xs) → backF as F' b = some (.tup xs)) ∧ ∀ b, F' b = none → backF as F' b = none := by
  have inF : ∀ b, b ∉ as → ∀ u, F b = some u → F' b = some u := fun b hb u e => g.f b u (by
    show (if b ∈ as then H b else F b) = _
    rw [if_neg hb]; exact e)
  have nF : ∀ b ∈ as, F b = none := fun b hb => by obtain ⟨o, hc⟩ := hin b hb; exact O.cf _ hc
  have sF : Same F (backF as F') := fun b u e => by
    show (if b ∈ as then none else F' b) = _
    by_cases hb : b ∈ as
    · rw [nF b hb] at e; cases e
    · rw [if_neg hb]; exact inF b hb u e
  refine ⟨⟨⟨O.g.f.trans sF, fun b u e => ?_, fun b u hb e => g.k b u (fun h => nomatch h) (O.g.k b u hb e), fun b e => g.t b (O.g.t b e), fun b e => ?_, fun b xs e => ?_⟩, fun c hc => ?_, fun c hc => g.k _ _ (fun h => nomatch h) (O.ch c hc), O.nd, O.ca, O.nt⟩, sF, fun b xs e => ?_, fun b e => ?_⟩
  · have e : (if b ∈ as then none else F' b) = some u := e
    by_cases hb : b ∈ as
    · rw [if_pos hb] at e; cases e
    · rw [if_neg hb] at e; exact g.s b u e
  · show (if b ∈ as then none else F' b) = _ ∨ _
    by_cases hb : b ∈ as
    · rw [if_pos hb]
      rcases O.g.n b e with h0 | h0
      · rw [nF b hb] at h0; exact .inl h0
      · exact .inr h0
    · rw [if_neg hb]
      rcases O.g.n b e with h0 | h0
      · rcases g.n b (O.g.t b e) with h1 | ⟨xs, hx⟩
        · refine .inl (h1.trans ?_)
          show (if b ∈ as then H b else F b) = _
          rw [if_neg hb]; exact h0
        · rcases O.g.u b xs hx with z | z
          · exact absurd z e
          · exact .inr ⟨xs, z⟩
      · exact .inr h0
  · rcases g.u b xs e with z | z
    · refine .inl ?_
      cases q : Z.H b with
      | none => rfl
      | some u => exact absurd z (O.g.t b (by rw [q]; simp))
    · exact O.g.u b xs z
  · show (if c.1 ∈ as then none else F' c.1) = none
    by_cases hb : c.1 ∈ as
    · rw [if_pos hb]
    · rw [if_neg hb]
      have hl : lendF as F H c.1 = none := by
        show (if c.1 ∈ as then H c.1 else F c.1) = _
        rw [if_neg hb]; exact O.cf c hc
      exact g.none (O.ch c hc) (O.nt c hc) hl
  · show (if b ∈ as then none else F' b) = _
    by_cases hb : b ∈ as
    · obtain ⟨o, hc⟩ := hin b hb
      have h1 : lendF as F H b = some o := by
        show (if b ∈ as then H b else F b) = _
        rw [if_pos hb]; exact O.ch _ hc
      have h2 := g.f b o h1
      rw [e] at h2
      have h3 := O.nt _ hc
      have h3 : noTup o = true := h3
      rw [← Option.some.inj h2] at h3
      cases h3
    · rw [if_neg hb]; exact e
  · show (if b ∈ as then none else F' b) = _
    by_cases hb : b ∈ as
    · rw [if_pos hb]
    · rw [if_neg hb]; exact e
theorem Ow.fresh (O : Ow Z F cs H) (h : H p = none) : p ∉ cs.map (·.1) := fun hm => by
  obtain ⟨c, hc, e⟩ := List.mem_map.mp hm
  have z := O.ch c hc
  rw [e, h] at z
  cases z
theorem Ow.add' (O : Ow Z F cs H) (hm : p ∉ cs.map (·.1)) (hz : Z.H p = none) (hf : F p = none) (h : H p = some o) (ht : noTup o = true := by rfl) : Ow Z F ((p, o) :: cs) H where
  g := O.g
  cf := fun c hc => by
    rcases List.mem_cons.mp hc with rfl | hc
    · exact hf
    · exact O.cf c hc
  ch := fun c hc => by
    rcases List.mem_cons.mp hc with rfl | hc
    · exact h
    · exact O.ch c hc
  nd := by
    rw [List.map_cons, List.nodup_cons]
    exact ⟨hm, O.nd⟩
  ca := fun c hc => by
    rcases List.mem_cons.mp hc with rfl | hc
    · exact .inr hz
    · exact O.ca c hc
  nt := fun c hc => by
    rcases List.mem_cons.mp hc with rfl | hc
    · exact ht
    · exact O.nt c hc
theorem Ow.ne (O : Ow Z F cs H) (i j : Nat) (hij : i ≠ j) (ei : cs[i]? = some (a, o)) (ej : cs[j]? = some (q, o')) : a ≠ q := fun e => by
  subst e
  have h1 : (cs.map (·.1))[i]? = some a := by rw [List.getElem?_map, ei]; rfl
  have h2 : (cs.map (·.1))[j]? = some a := by rw [List.getElem?_map, ej]; rfl
  exact hij (nd_ix O.nd h1 h2)
end
theorem nmem2 {p q : Addr} {l : List Addr} (h : p ≠ q) (h2 : p ∉ l) : p ∉ q :: l := fun m => by
  rcases List.mem_cons.mp m with e | m
  · exact h e
  · exact h2 m
/-! ### while -/
inductive Ws (s r : Type) where
  | go (x : s)
  | stop (x : s)
  | rt (z : r)
def whL {s r : Type} (b : s → M (Ws s r)) : Nat → s → M (Fl s r)
  | 0, _ => bad
  | n + 1, x => b x >>= fun
    | .go x' => whL b n x'
    | .stop x' => .ok (.nx x')
    | .rt z => .ok (.rt z)
theorem whL_L {s r a : Type} {Q : a → Prop} {E : String → Prop} {b : s → M (Ws s r)} {n : Nat} {x : s} {k : Fl s r → M a} (h : wp (whL b n x >>= k) Q E) :
    ∃ (L : Nat → s → Prop) (X : s → Prop), L n x ∧ (∀ m x, L m x → wp (b x) (fun w => match w with
      | .go x' => ∃ m', m' < m ∧ L m' x'
      | .stop x' => X x'
      | .rt z => wp (k (.rt z)) Q E) E) ∧ ∀ x, X x → wp (k (.nx x)) Q E := by
  refine ⟨fun n x => wp (whL b n x >>= k) Q E, fun x => wp (k (.nx x)) Q E, h, fun m x hx => ?_, fun x hx => hx⟩
  cases m with
  | zero => exact hx.elim
  | succ m =>
    have hx : wp ((b x >>= fun
      | .go x' => whL b m x'
      | .stop x' => .ok (.nx x')
      | .rt z => .ok (.rt z)) >>= k) Q E := hx
    rw [wp_bind, wp_bind] at hx
    cases e : b x with
    | error e2 => rw [e] at hx; cases e2 <;> exact hx
    | ok w =>
      rw [e] at hx
      cases w with
      | go x' => exact ⟨m, Nat.lt_succ_self m, wp_bind.mpr hx⟩
      | stop x' => exact hx
      | rt z => exact hx
theorem while_P {c : TT} {tb : TS} {D : Ends} {σ : L2.St} {H : Hp} (W : Nat → L2.St → Hp → Prop) (X : L2.St → Hp → Prop) (n : Nat) (h0 : W n σ H) (exit : ∀ σ H, X σ H → D.nx σ H)
    (turn : (∀ σ H, X σ H → D.nx σ H) → ∀ m σ H, W m σ H → c σ H fun b H1 => if b = true then ∃ N : L2.St → Hp → Prop, (∀ σ' H', N σ' H' → ∃ m', m' < m ∧ W m' σ' H') ∧ tb { D with nx := N, ct := N, bk := D.nx } σ H1 else D.nx σ H1) : tWhile c tb D σ H :=
  ⟨W, ⟨n, h0⟩, turn exit⟩
/-! ### a < b < c < d -/
section
variable {X : Cx} {a b c d : Expr} {ta tb tc td : TE} {pos : Pos}
def tChain3 (r r' r'' : R2) (ta tb tc td : TE) : TE := fun σ H Q => ta σ H fun x H1 => tb σ H1 fun y H2 => r x y H2 fun z H3 => ∃ k, z = .bl k ∧
  (if k = true then tc σ H3 fun w' H4 => r' y w' H4 fun z' H5 => ∃ k', z' = .bl k' ∧ (if k' = true then td σ H5 fun u' H6 => r'' w' u' H6 Q else Q (.bl false) H5) else Q (.bl false) H3)
theorem pt_chain3 {op op' op'' : CmpOp} {r r' r'' : R2} (ho : OpR X (compareOp op) r) (ho' : OpR X (compareOp op') r') (ho'' : OpR X (compareOp op'') r'') (ha : PE X a ta) (hb : PE X b tb) (hc : PE X c tc) (hd : PE X d td)
    (hm : lastMarks [op, op', op''] [b, c, d] = false := by with_unfolding_all rfl) : PT X (.Compare a [op, op', op''] [b, c, d] pos) (tTest (tChain3 r r' r'' ta tb tc td)) := by
  refine ⟨fun pins s σ H Q I h => ?_⟩
  refine isTrue_chain (thn (ha.run pins s σ H _ I h) fun v s1 ⟨x, H1, I1, r1, q1⟩ => test_link (thn (hb.run pins s1 σ H1 _ I1 q1) fun u s2 ⟨y, H2, I2, r2, q2⟩ =>
    thn (ho pins s2 σ H2 x y v u _ I2 r1 r2 q2) fun d1 s3 ⟨z, H3, I3, r3, k, e, q3⟩ => ?_)) hm
  subst e
  cases r3
  refine wpAny_truthy_bool ?_
  cases k with
  | false =>
    obtain ⟨k', e', q'⟩ := q3
    cases e'
    exact ite_ff ⟨H3, I3, q'⟩
  | true =>
    refine ite_tt (test_link (thn (hc.run pins s3 σ H3 _ I3 q3) fun w' s4 ⟨z', H4, I4, r4, q4⟩ => thn (ho' pins s4 σ H4 y z' u w' _ I4 r2 r4 q4) fun d2 s5 ⟨z2, H5, I5, r5, k2, e2, q5⟩ => ?_))
    subst e2
    cases r5
    refine wpAny_truthy_bool ?_
    cases k2 with
    | false =>
      obtain ⟨k', e', q'⟩ := q5
      cases e'
      exact ite_ff ⟨H5, I5, q'⟩
    | true =>
      refine ite_tt (test_last (thn (hd.run pins s5 σ H5 _ I5 q5) fun u' s6 ⟨z3, H6, I6, r6, q6⟩ => thn (ho'' pins s6 σ H6 z' z3 w' u' _ I6 r4 r6 q6) fun d3 s7 ⟨z4, H7, I7, r7, k3, e3, q7⟩ => ?_))
      subst e3
      cases r7
      exact wpAny_truthy_bool ⟨H7, I7, q7⟩
end
/-! ### list.index of whole numbers -/
def ixI (xs : List Int) (y : Int) : M Int := if y ∈ xs then .ok ((xs.findIdx (· == y) : Nat) : Int) else bad
theorem wp_ixI {a : Type} {Q : a → Prop} {E : String → Prop} {xs : List Int} {y : Int} {k : Int → M a} (h : wp (ixI xs y >>= k) Q E) : ∃ j, xs.findIdx (· == y) = j ∧ xs[j]? = some y ∧ (∀ (m : Nat) z, m < j → xs[m]? = some z → z ≠ y) ∧ wp (k (j : Int)) Q E := by
  unfold ixI at h
  by_cases hm : y ∈ xs
  · rw [if_pos hm] at h
    have hlt : xs.findIdx (· == y) < xs.length := List.findIdx_lt_length_of_exists ⟨y, hm, by simp⟩
    refine ⟨_, rfl, ?_, fun m z hmj hz e => ?_, h⟩
    · rw [List.getElem?_eq_getElem hlt]
      have := List.findIdx_getElem (w := hlt)
      rw [eq_of_beq this]
    · have := List.not_of_lt_findIdx hmj
      obtain ⟨hl, hz⟩ := List.getElem?_eq_some_iff.mp hz
      rw [hz, e] at this
      simp at this
  · rw [if_neg hm] at h; exact h.elim
theorem all_flat_int : ∀ xs : List Int, (xs.map V.int).all flatV = true
  | [] => rfl
  | x :: xs => by rw [List.map_cons, List.all_cons, all_flat_int xs]; rfl
theorem int_noeq {xs : List Int} {y : Int} {j : Nat} (h : ∀ (m : Nat) z, m < j → xs[m]? = some z → z ≠ y) : ∀ (m : Nat) (z' : V), m < j → (xs.map V.int)[m]? = some z' → eqV z' (.int y) = false := fun m z' hm hz => by
  rw [List.getElem?_map] at hz
  cases e : xs[m]? with
  | none => rw [e] at hz; cases hz
  | some z =>
    rw [e] at hz
    have hz : V.int z = z' := Option.some.inj hz
    subst hz
    have := h m z hm e
    show (z == y) = false
    simpa using this
theorem int_at {xs : List Int} {y : Int} {j : Nat} (h : xs[j]? = some y) : (xs.map V.int)[j]? = some (.int y) := by rw [List.getElem?_map, h]; rfl
theorem int_eq {y : Int} : eqV (.int y) (.int y) = true := by show (y == y) = true; simp
/-! ### dict(list of pairs), the keys whole numbers -/
section
variable {β : Type} [Py β] {F H : Hp}
def mergeD (xs : List (Int × β)) : List (Int × β) := xs.foldl (fun acc p => dPut acc p.1 p.2) []
theorem merge_rd {kvs : List (Key × V)} {xs : List (Int × β)} (hs : RD F kvs xs) : ∀ {acc : List (Key × V)} {ac : List (Int × β)}, RD F acc ac → RD F (mergeK acc kvs) (xs.foldl (fun acc p => dPut acc p.1 p.2) ac) := by
  induction hs with
  | nil => intro acc ac h; exact h
  | @cons k v y kvs xs hv _ ih =>
    intro acc ac h
    exact ih (h.put k hv)
theorem pairs_of_rl {K : PySem.W.Frag} (s : Same F H) : ∀ {vs : List V} {xs : List (Int × β)}, RL F vs xs → ∃ (ps : List Addr) (kvs : List (Key × V)), vs = ps.map V.ref ∧ Paired (fun p kv => SqT K H p [kV kv.1, kv.2]) ps kvs ∧ RD F kvs xs
  | _, [], h => ⟨[], [], RL.nil_ h, .nil, .nil⟩
  | _, x :: xs, h => by
    obtain ⟨w, ws, rfl, h1, h2⟩ := RL.cons_ h
    obtain ⟨ps, kvs, e, hp, hr⟩ := pairs_of_rl (K := K) s h2
    obtain ⟨p, v1, v2, rfl, hp1, h3, h4⟩ := R.t2_ h1
    rw [R.int_ h3] at hp1
    exact ⟨p :: ps, (.inl x.1, v2) :: kvs, by rw [e]; rfl, .cons (SqT.of (s _ _ hp1)) hp, .cons (k := x.1) h4 hr⟩
end
/-! ### the same rules, the fragment told outright (within a comprehension) -/
section
variable {X : Cx} {K : PySem.W.Frag}
theorem ixTupK (h : X.K = K) : IxR X (rIxT K) := by rw [← h]; exact ix_tup
theorem ixListK (h : X.K = K) : IxR X (rIxL K) := by rw [← h]; exact ix_list
theorem listOfK (h : X.K = K) : CallR X (.type "list") (fun xs H Q => ∃ p ys, xs = [.ref p] ∧ (SqL K H p ys ∨ SqT K H p ys) ∧ ∀ l, H l = none → Q (.ref l) (upd H l (.lst ys))) := by rw [← h]; exact call_list_of
theorem isiK (h : X.K = K) : CallR X (.builtin "isinstance") (rIsi K) := by rw [← h]; exact call_isi
theorem slListK (h : X.K = K) : SlR X (rSlL K) := by rw [← h]; exact sl_list
theorem indexK (h : X.K = K) : MtR X "list.index" (rIndex K) := by rw [← h]; exact mt_index
end
/-! ### enumerate in a comprehension -/
def enumL {b : Type} (xs : List b) : List (Int × b) := xs.zipIdx.map fun p => ((p.2 : Int), p.1)
theorem enumL_get {b : Type} {xs : List b} {i : Nat} {x : b} (h : xs[i]? = some x) : (enumL xs).drop i = ((i : Int), x) :: (enumL xs).drop (i + 1) := by
  apply drop_at
  unfold enumL
  rw [List.getElem?_map, List.getElem?_zipIdx, h]
  simp
theorem enumL_len {b : Type} {xs : List b} : (enumL xs).length = xs.length := by unfold enumL; simp
theorem enumL_end {b : Type} {xs : List b} {vs : List V} (h : vs.length = xs.length) : (enumL xs).drop vs.length = [] := by
  rw [h, ← enumL_len, List.drop_length]
theorem comp_lenE {b : Type} {w vs : List V} {xs : List b} {i : Nat} (la : w.length ≤ i) (hi : i < vs.length) (hl : vs.length = xs.length) (c : (enumL xs).length < 16777216) : w.length < sizeLine := by
  rw [enumL_len] at c
  exact lt_line (by omega)
theorem zip_at {a b : Type} {xs : List a} {ys : List b} {i : Nat} {x : a} {y : b} (h : xs[i]? = some x) (h2 : ys[i]? = some y) : (xs.zip ys).drop i = (x, y) :: (xs.zip ys).drop (i + 1) := by
  apply drop_at
  rw [List.getElem?_zip_eq_some]
  exact ⟨h, h2⟩
theorem zip_end {a b : Type} {xs : List a} {ys : List b} {vs ws : List V} (h : vs.length = xs.length) (h2 : ws.length = ys.length) : (xs.zip ys).drop (min vs.length ws.length) = [] := by
  rw [h, h2, ← List.length_zip, List.drop_length]
theorem comp_lenZ {a b : Type} {w vs ws : List V} {xs : List a} {ys : List b} {i : Nat} (la : w.length ≤ i) (hi : i < min vs.length ws.length) (h : vs.length = xs.length) (h2 : ws.length = ys.length) (c : (xs.zip ys).length < 16777216) : w.length < sizeLine := by
  rw [List.length_zip, ← h, ← h2] at c
  exact lt_line (by omega)
section
variable {X : Cx} {K : PySem.W.Frag}
theorem cr_sumK (hc : X.calm = true) (h : X.K = K) : CallR X (.builtin "sum") (rSum K) := by rw [← h]; exact cr_sum hc
end
end PG

set_option Elab.async false
set_option linter.all false
set_option maxRecDepth 100000
set_option maxHeartbeats 4000000
namespace PG
open PySem PySem.Spec PyProof.Rows L2
open PySem.W (T3 T4 Datum DatumOrd Holds HoldAll EachIs)
/-! ### sums: ("number", n), (word, n), (word,), (word, a, b) -/
inductive Sm where
  | num (w : Str) (n : Int)
  | nam (w : Str)
  | two (w : Str) (a b : Sm)
  deriving DecidableEq
def Sm.d : Sm → PyData
  | .num w n => .tuple [.str w, .int n]
  | .nam w => .tuple [.str w]
  | .two w a b => .tuple [.str w, a.d, b.d]
instance : Py Sm := ⟨Sm.d⟩
def Sm.word : Sm → Str
  | .num w _ => w
  | .nam w => w
  | .two w _ _ => w
def Sm.int? : Sm → Option Int
  | .num _ n => some n
  | _ => none
def Sm.two? : Sm → Option (Sm × Sm)
  | .two _ a b => some (a, b)
  | _ => none
section
variable {F : Hp} {v : V} {p : Addr} {x : Sm}
theorem R.sm_ (h : R F v x) : ∃ p ws, v = .ref p ∧ F p = some (.tup (V.str x.word :: ws)) := by
  cases x with
  | num w n =>
    obtain ⟨p, v1, v2, e, hp, h1, h2⟩ := R.t2_ (show R (a := Str × Int) F v (w, n) from h)
    rw [R.str_ h1] at hp
    exact ⟨p, [v2], e, hp⟩
  | nam w =>
    have h' : Rep F v (.tuple [.str w]) := h
    cases h' with
    | tup ha hs =>
      cases hs with
      | cons h1 hs =>
        cases hs
        cases h1
        exact ⟨_, _, rfl, ha⟩
  | two w a b =>
    obtain ⟨p, v1, v2, v3, e, hp, h1, h2, h3⟩ := R.t3_ (show R (a := T3 Str Sm Sm) F v ⟨w, a, b⟩ from h)
    rw [R.str_ h1] at hp
    exact ⟨p, [v2, v3], e, hp⟩
theorem R.sm_int {n : Int} (h : R F v x) (e : x.int? = some n) : ∃ p w, v = .ref p ∧ F p = some (.tup [V.str w, V.int n]) := by
  cases x with
  | num w m =>
    obtain ⟨p, v1, v2, e1, hp, h1, h2⟩ := R.t2_ (show R (a := Str × Int) F v (w, m) from h)
    rw [R.str_ h1, R.int_ h2] at hp
    have e : some m = some n := e
    cases e
    exact ⟨p, w, e1, hp⟩
  | nam w => cases e
  | two w a b => cases e
theorem R.sm_two {q : Sm × Sm} (h : R F v x) (e : x.two? = some q) : ∃ p w va vb, v = .ref p ∧ F p = some (.tup [V.str w, va, vb]) ∧ R F va q.1 ∧ R F vb q.2 := by
  cases x with
  | num w m => cases e
  | nam w => cases e
  | two w a b =>
    obtain ⟨p, v1, v2, v3, e1, hp, h1, h2, h3⟩ := R.t3_ (show R (a := T3 Str Sm Sm) F v ⟨w, a, b⟩ from h)
    rw [R.str_ h1] at hp
    have e : some (a, b) = some q := e
    cases e
    exact ⟨p, w, v2, v3, e1, hp, h2, h3⟩
theorem R.of_num {q : Str × Int} (h : R F v q) : R F v (Sm.num q.1 q.2) := h
theorem R.of_two {q : T3 Str Sm Sm} (h : R F v q) : R F v (Sm.two q.a q.b q.c) := h
theorem R.of_nam {w : Str} (h : F p = some (.tup [V.str w])) : R F (.ref p) (Sm.nam w) := Rep.tup h (.cons (.str w) .nil)
end
/-! ### a whole number or a list of such -/
inductive IL where
  | i (n : Int)
  | l (xs : List Int)
instance : Py IL := ⟨fun
  | .i n => Py.toD n
  | .l xs => Py.toD xs⟩
def IL.i? : IL → Option Int
  | .i n => some n
  | _ => none
def IL.l? : IL → Option (List Int)
  | .l xs => some xs
  | _ => none
section
variable {F : Hp} {v : V}
theorem R.il_i {x : IL} {n : Int} (h : R F v x) (e : x.i? = some n) : R F v n := by
  cases x with
  | i m => have e : some m = some n := e; cases e; exact h
  | l xs => cases e
theorem R.il_l {x : IL} {xs : List Int} (h : R F v x) (e : x.l? = some xs) : R F v xs := by
  cases x with
  | i m => cases e
  | l ys => have e : some ys = some xs := e; cases e; exact h
theorem R.of_i {n : Int} (h : R F v n) : R F v (IL.i n) := h
theorem R.of_l {xs : List Int} (h : R F v xs) : R F v (IL.l xs) := h
end
section
variable {β : Type} [Py β] {F : Hp}
def mergeDS (xs : List (Str × β)) : List (Str × β) := xs.foldl (fun acc p => dPut acc p.1 p.2) []
theorem merge_rdS {kvs : List (Key × V)} {xs : List (Str × β)} (hs : RD F kvs xs) : ∀ {acc : List (Key × V)} {ac : List (Str × β)}, RD F acc ac → RD F (mergeK acc kvs) (xs.foldl (fun acc p => dPut acc p.1 p.2) ac) := by
  induction hs with
  | nil => intro acc ac h; exact h
  | @cons k v y kvs xs hv _ ih =>
    intro acc ac h
    exact ih (h.put k hv)
end
section
variable {X : Cx} {K : PySem.W.Frag} {pos : Pos}
theorem slTupK (h : X.K = K) : SlR X (rSlT K) := by rw [← h]; exact sl_tup
theorem pgLstK (h : X.K = K) {es : List Expr} {k : Nat} {t : TGs} {n : Nat} (hc : X.calm = true) (hp : PGs X es t)
    (hn : (assignEach es X.env).length = n := by rfl) (hst : (assignEach es X.env).findIdx? (·.1) = none := by rfl) : PG X (.Tuple es k pos) (gLst K n t) := by rw [← h]; exact pg_lst hc hp hn hst
end
theorem RL.two {a : Type} [Py a] {F : Hp} {vs : List V} {xs : List a} (h : RL F vs xs) (e : xs.length = 2) : ∃ v1 v2 x1 x2, vs = [v1, v2] ∧ xs = [x1, x2] ∧ R F v1 x1 ∧ R F v2 x2 := by
  match xs, e with
  | [x1, x2], _ =>
    obtain ⟨w, ws, rfl, h1, h2⟩ := RL.cons_ h
    obtain ⟨w2, ws2, rfl, h3, h4⟩ := RL.cons_ h2
    rw [RL.nil_ h4]
    exact ⟨w, w2, x1, x2, rfl, rfl, h1, h3⟩
/-- a list of just two -/
def two2 {a : Type} (xs : List a) : M (a × a) := match xs with
  | [x, y] => .ok (x, y)
  | _ => bad
theorem wp_two2 {a b : Type} {Q : a → Prop} {E : String → Prop} {xs : List b} {k : b × b → M a} (h : wp (two2 xs >>= k) Q E) : ∃ x y, xs = [x, y] ∧ wp (k (x, y)) Q E := by
  match xs, h with
  | [x, y], h => exact ⟨x, y, rfl, h⟩
  | [], h => exact h.elim
  | [_], h => exact h.elim
  | _ :: _ :: _ :: _, h => exact h.elim
theorem sl3 (a b c : V) : ¬ (HT.sIx [a, b, c].length 0 (some (1 : Int)) = 0 ∧ HT.sIx [a, b, c].length [a, b, c].length none = [a, b, c].length) := fun h => absurd h.1 (by show ¬ (HT.sIx 3 0 (some (1 : Int)) = 0); decide)
theorem intB {X : Cx} : CallR X (.type "int") (fun xs H Q => ∃ k, xs = [.bl k] ∧ Q (.int (if k then 1 else 0)) H) := fun pins s σ H xs us Q I r h => call_int1 pins s σ H xs us Q I r (.inr h)
theorem atI0 {a : Type} (x : a) (xs : List a) : L2.atI (x :: xs) (0 : Int) = some x := by
  unfold L2.atI ixN
  rw [if_pos (by omega), if_pos (by rw [List.length_cons]; omega)]
  rfl
end PG

set_option Elab.async false
set_option linter.all false
set_option maxRecDepth 100000
set_option maxHeartbeats 4000000
namespace PG
open PySem PySem.Spec PyProof.Rows L2
open PySem.W (T3 T4 Datum DatumOrd Holds HoldAll EachIs)
/-! ### == of data of any depth, the depth asked outright -/
class DatumX (a : Type) [Py a] [DecidableEq a] : Prop where
  plain : ∀ x : a, (Py.toD x).plain = true
  eqv : ∀ x y : a, PyData.eqv (Py.toD x) (Py.toD y) = decide (x = y)
instance (priority := 50) {a : Type} [Py a] [DecidableEq a] [Datum a] [IsD a] : DatumX a := ⟨fun x => by rw [IsD.eq]; exact Datum.plain x, fun x y => by rw [IsD.eq, IsD.eq]; exact Datum.eqv x y⟩
theorem Sm.pl : ∀ x : Sm, x.d.plain = true
  | .num w n => by simp [Sm.d, PyData.plain, PyData.plainAll]
  | .nam w => by simp [Sm.d, PyData.plain, PyData.plainAll]
  | .two w a b => by simp [Sm.d, PyData.plain, PyData.plainAll, Sm.pl a, Sm.pl b]
theorem ev23 (w w' : Str) (n : PyData) (x y : PyData) : PyData.eqv (.tuple [.str w, n]) (.tuple [.str w', x, y]) = false := by simp [PyData.eqv, PyData.eqvAll]
theorem ev32 (w w' : Str) (n : PyData) (x y : PyData) : PyData.eqv (.tuple [.str w', x, y]) (.tuple [.str w, n]) = false := by simp [PyData.eqv, PyData.eqvAll]
theorem ev13 (w w' : Str) (x y : PyData) : PyData.eqv (.tuple [.str w]) (.tuple [.str w', x, y]) = false := by simp [PyData.eqv, PyData.eqvAll]
theorem ev31 (w w' : Str) (x y : PyData) : PyData.eqv (.tuple [.str w', x, y]) (.tuple [.str w]) = false := by simp [PyData.eqv, PyData.eqvAll]
theorem Sm.ev : ∀ x y : Sm, PyData.eqv x.d y.d = decide (x = y)
  | .num w n, .num w' n' => by
    simp only [Sm.d, PyData.eqv, PyData.eqvAll, Bool.and_true]
    rw [PySem.W.beq_decide, PySem.W.beq_decide, ← Bool.decide_and]
    exact decide_eq_decide.mpr (by rw [Sm.num.injEq])
  | .num w n, .nam w' => by simp [Sm.d, PyData.eqv, PyData.eqvAll]
  | .num w n, .two w' a b => (ev23 w w' (.int n) a.d b.d).trans (by simp)
  | .nam w, .num w' n => by simp [Sm.d, PyData.eqv, PyData.eqvAll]
  | .nam w, .nam w' => by
    simp only [Sm.d, PyData.eqv, PyData.eqvAll, Bool.and_true]
    rw [PySem.W.beq_decide]
    exact decide_eq_decide.mpr (by rw [Sm.nam.injEq])
  | .nam w, .two w' a b => (ev13 w w' a.d b.d).trans (by simp)
  | .two w a b, .num w' n => (ev32 w' w (.int n) a.d b.d).trans (by simp)
  | .two w a b, .nam w' => (ev31 w' w a.d b.d).trans (by simp)
  | .two w a b, .two w' a' b' => by
    simp only [Sm.d, PyData.eqv, PyData.eqvAll, Bool.and_true]
    rw [PySem.W.beq_decide, Sm.ev a a', Sm.ev b b', ← Bool.decide_and, ← Bool.decide_and]
    exact decide_eq_decide.mpr (by rw [Sm.two.injEq])
instance : DatumX Sm := ⟨Sm.pl, Sm.ev⟩
section
variable {a b c d : Type} [Py a] [DecidableEq a] [DatumX a] [Py b] [DecidableEq b] [DatumX b] [Py c] [DecidableEq c] [DatumX c] [Py d] [DecidableEq d] [DatumX d]
theorem plainX : ∀ xs : List a, PyData.plainAll (xs.map Py.toD) = true
  | [] => rfl
  | x :: xs => by
    rw [List.map_cons, PyData.plainAll, DatumX.plain x, plainX xs]
    rfl
theorem eqvX : ∀ xs ys : List a, PyData.eqvAll (xs.map Py.toD) (ys.map Py.toD) = decide (xs = ys)
  | [], [] => by simp only [List.map_nil, PyData.eqvAll, decide_true]
  | [], _ :: _ => by simp [PyData.eqvAll]
  | _ :: _, [] => by simp [PyData.eqvAll]
  | x :: xs, y :: ys => by
    rw [List.map_cons, List.map_cons, PyData.eqvAll, DatumX.eqv x y, eqvX xs ys, ← Bool.decide_and]
    exact decide_eq_decide.mpr (by rw [List.cons.injEq])
instance : DatumX (List a) := ⟨fun xs => by show PyData.plain (.list (xs.map Py.toD)) = true; simp only [PyData.plain]; exact plainX xs, fun xs ys => by show PyData.eqv (.list (xs.map Py.toD)) (.list (ys.map Py.toD)) = _; simp only [PyData.eqv]; exact eqvX xs ys⟩
theorem T4.sm {p q : T4 a b c d} : p = q ↔ p.a = q.a ∧ p.b = q.b ∧ p.c = q.c ∧ p.d = q.d := by
  cases p; cases q
  simp
instance : DatumX (T4 a b c d) := ⟨fun p => by show PyData.plain (.tuple [_, _, _, _]) = true; simp only [PyData.plain, PyData.plainAll, DatumX.plain, Bool.and_self], fun p q => by
  show PyData.eqv (.tuple [_, _, _, _]) (.tuple [_, _, _, _]) = _
  simp only [PyData.eqv, PyData.eqvAll]
  rw [DatumX.eqv, DatumX.eqv, DatumX.eqv, DatumX.eqv, Bool.and_true, ← Bool.decide_and, ← Bool.decide_and, ← Bool.decide_and]
  exact decide_eq_decide.mpr T4.sm.symm⟩
end
def dep {a : Type} [Py a] (x : a) : Nat := (Py.toD x).depth
section
variable {X : Cx} (a : Type) [Py a] [DecidableEq a] [DatumX a]
def rEqX : R2 := fun x y H Q => ∃ p q : a, R H x p ∧ R H y q ∧ min (dep p) (dep q) ≤ 60 ∧ Q (.bl (decide (p = q))) H
def rNeX : R2 := fun x y H Q => ∃ p q : a, R H x p ∧ R H y q ∧ min (dep p) (dep q) ≤ 60 ∧ Q (.bl (decide (p ≠ q))) H
theorem op_eqX (hu : X.A.units + 64 < cLine) : OpR X (compareOp .Eq) (rEqX a) := by
  intro pins s σ H x y v u Q I rx ry h
  obtain ⟨p, q, hp, hq, hd, k⟩ := h
  obtain ⟨as, ra⟩ := Dp.reads I _ _ _ (Rep.dp _ _ hp) rx
  obtain ⟨bs, rb⟩ := Dp.reads I _ _ _ (Rep.dp _ _ hq) ry
  have hd' : min (Py.toD p).depth (Py.toD q).depth ≤ 60 := hd
  exact PySem.SeqAt.eq_plain ra rb (DatumX.plain p) (DatumX.plain q) (by omega) (by rw [DatumX.eqv p q]; exact ⟨.bl _, H, I, rfl, k⟩)
theorem op_neX (hu : X.A.units + 64 < cLine) : OpR X (compareOp .NotEq) (rNeX a) := by
  intro pins s σ H x y v u Q I rx ry h
  obtain ⟨p, q, hp, hq, hd, k⟩ := h
  obtain ⟨as, ra⟩ := Dp.reads I _ _ _ (Rep.dp _ _ hp) rx
  obtain ⟨bs, rb⟩ := Dp.reads I _ _ _ (Rep.dp _ _ hq) ry
  have hd' : min (Py.toD p).depth (Py.toD q).depth ≤ 60 := hd
  exact PySem.SeqAt.ne_plain ra rb (DatumX.plain p) (DatumX.plain q) (by omega) (by rw [DatumX.eqv p q, ← decide_not]; exact ⟨.bl _, H, I, rfl, k⟩)
end
/-! ### a tuple of things of one kind, of any length -/
structure Tp (a : Type) where
  l : List a
instance {a : Type} [Py a] : Py (Tp a) := ⟨fun t => .tuple (t.l.map Py.toD)⟩
section
variable {a : Type} [Py a] {F : Hp} {v : V}
theorem R.tp_ {x : Tp a} (h : R F v x) : ∃ p vs, v = .ref p ∧ F p = some (.tup vs) ∧ RL F vs x.l := by
  have h' : Rep F v (.tuple (x.l.map Py.toD)) := h
  cases h' with
  | tup ha hs => exact ⟨_, _, rfl, ha, hs⟩
theorem R.tp2 {q : a × a} (h : R F v q) : R F v (Tp.mk [q.1, q.2]) := h
theorem R.tp3 {q : T3 a a a} (h : R F v q) : R F v (Tp.mk [q.a, q.b, q.c]) := h
theorem R.tp1 {w : Str} (h : R F v (Sm.nam w)) : R F v (Tp.mk [w]) := h
end
end PG

set_option Elab.async false
set_option linter.all false
set_option maxRecDepth 100000
set_option maxHeartbeats 4000000
namespace PG
open PySem PySem.Spec PyProof.Rows L2
open PySem.W (T3 T4 Datum DatumOrd Holds HoldAll EachIs)
/-! ### dict(a list of pairs), the keys tuples -/
def mergeT (kvs more : List (List Key × V)) : List (List Key × V) := more.foldl (fun m q => putK m q.1 q.2) kvs
theorem mergeT_kt {H : Hp} {kvs : List (List Key × V)} {xs : List (List Key × Addr × Value)} (r : KT H kvs xs) : ∀ {m : List (List Key × V)} {ms : List (List Key × Addr × Value)}, KT H m ms →
    KT H (mergeT m kvs) (storedAllH ms xs) := by
  induction r with
  | nil => intro m ms h; exact h
  | @cons p q ps qs h t ih =>
    intro m ms hm
    obtain ⟨e, hb, rv⟩ := h
    have := ih (KT.put hm q.1 (b := q.2.1) (by rw [← e]; exact hb) rv)
    unfold mergeT storedAllH at *
    rw [List.foldl_cons, List.foldl_cons, e]
    exact this
def PairT (K : PySem.W.Frag) (H : Hp) (p : Addr × Addr) (q : List Key × V) : Prop := SqT K H p.1 [.ref p.2, q.2] ∧ H p.2 = some (.tup (q.1.map kV))
theorem kt_at {H : Hp} {kvs : List (List Key × V)} {xs : List (List Key × Addr × Value)} (r : KT H kvs xs) : ∀ x ∈ xs, H x.2.1 = some (.tup (x.1.map kV)) := by
  induction r with
  | nil => exact fun x hx => nomatch hx
  | cons h _ ih => intro x hx; rcases List.mem_cons.mp hx with rfl | hx; · rw [← h.1]; exact h.2.1
                   · exact ih x hx
theorem ne_of_none {H : Hp} {b c : Addr} {o : HO} (e : H c = some o) (n : H b = none) : c ≠ b := fun z => by rw [z, n] at e; exact nomatch e
section
variable {X : Cx}
theorem tripT {pins : List (Addr × Obj)} {σ : L2.St} {H : Hp} {s : Shared} (I : Inv X pins σ H s) {ps : List (Addr × Addr)} {kvs : List (List Key × V)} (h : Paired (PairT X.K H) ps kvs) :
    ∃ xs : List (List Key × Addr × Value), KT H kvs xs ∧ xs.length = ps.length ∧ ∀ (j : Nat) q, xs[j]? = some q → ∃ b, ps[j]? = some b ∧ b.2 = q.2.1 ∧ IsTup s.heap b.1 #[.ref q.2.1, q.2.2] := by
  induction h with
  | nil => exact ⟨[], .nil, rfl, fun j q e => by simp at e⟩
  | @cons p kv ps' kvs' h t ih =>
    obtain ⟨xs, r, hl, hx⟩ := ih
    obtain ⟨h1, h2⟩ := h
    obtain ⟨its, rv, ht, _⟩ := I.tuple h1
    obtain ⟨u, y, ei, ru, ry⟩ := vals2 rv
    subst ei
    cases ru
    refine ⟨(kv.1, p.2, y) :: xs, .cons ⟨rfl, h2, ry⟩ r, by simp [hl], fun j q e => ?_⟩
    cases j with
    | zero =>
      have e' : (kv.1, p.2, y) = q := Option.some.inj e
      subst e'
      exact ⟨p, rfl, rfl, ht⟩
    | succ j => exact (hx j q (by simpa using e)).imp fun b z => ⟨by simpa using z.1, z.2⟩
theorem refs_pT : ∀ {ps : List (Addr × Addr)} {us : List Value}, Vals (ps.map fun p => V.ref p.1) us → us = ps.map fun p => Value.ref p.1
  | [], us, r => by rw [List.map_nil] at r; cases r; rfl
  | p :: ps, us, r => by
    rw [List.map_cons] at r
    cases r with
    | cons h t => cases h; rw [List.map_cons, ← refs_pT t]
theorem call_dictT (hcalm : X.calm = true) (hu : X.A.units + 64 < cLine) : CallR X (.type "dict") (fun xs H Q => ∃ (a : Addr) (ps : List (Addr × Addr)) (kvs : List (List Key × V)), xs = [.ref a] ∧
    SqL X.K H a (ps.map fun p => V.ref p.1) ∧ Paired (PairT X.K H) ps kvs ∧ ∀ p, H p = none → Q (.ref p) (upd H p (.dT (mergeT [] kvs)))) := by
  intro pins s σ H zs us Q I r q
  obtain ⟨a, ps, kvs, ez, hq, hp, q⟩ := q
  subst ez
  obtain ⟨u, eu, rx⟩ := vals1 r
  subst eu
  cases rx
  obtain ⟨its, rv, pl, hz⟩ := I.list hq
  have ei := refs_pT rv
  subst ei
  obtain ⟨xs, rel, hl, hx⟩ := tripT I hp
  obtain ⟨o, n, ho, hc, hd, hdat⟩ := pl
  have hz' : ps.length ≤ sizeLine := by simpa using hz
  have hkey : ∀ x ∈ xs, (tupleKind (mixKind X.prog X.w)).is s.heap x.1 x.2.1 := fun x hxm => key_of I.hok (kt_at rel x hxm)
  have hps : ∀ (j : Nat) (k v : Value), (xs.map fun x => (Value.ref x.2.1, x.2.2))[j]? = some (k, v) → ∃ q, xs[j]? = some q ∧ k = .ref q.2.1 ∧ v = q.2.2 := fun j k v e => by
    rw [List.getElem?_map] at e
    cases hq' : xs[j]? with
    | none => rw [hq'] at e; exact nomatch e
    | some q' => rw [hq'] at e; cases e; exact ⟨q', rfl, rfl, rfl⟩
  refine call_dict_pairsH (knd := tupleKind (mixKind X.prog X.w)) (ps := xs)
    (PairArg.list a _ (fun j => ((ps[j]?).map (·.1)).getD 0) (xs.map fun x => (Value.ref x.2.1, x.2.2))) (I.ok.hd hcalm) (show X.A.units + 1 + 1 < cLine by omega)
    ⟨⟨o, n, ho, hc, hd, hdat⟩, ⟨by simp [hl], fun j k v e => ?_⟩⟩ ⟨by simp, fun i k v e => ?_⟩ (fun h' hk x hxm => ?_) (by simpa [hl] using hz') fun h' tk hd' hk => ?_
  · obtain ⟨q', e1, rfl, rfl⟩ := hps j k v e
    obtain ⟨b, e2, _, ht⟩ := hx j q' e1
    have e3 : ((ps[j]?).map (·.1)).getD 0 = b.1 := by rw [e2]; rfl
    show _ ∧ PairAt s.heap (((ps[j]?).map (·.1)).getD 0) _ _
    rw [e3]
    exact ⟨by show _ = some (Value.ref (((ps[j]?).map (·.1)).getD 0)); rw [e3]; simp [e2], .inl ht⟩
  · obtain ⟨q', e1, rfl, rfl⟩ := hps i k v e
    exact ⟨q'.1, q'.2.1, e1, rfl⟩
  · obtain ⟨o', its', n', h1, h2⟩ := hkey x hxm
    exact ⟨o', its', n', hk _ _ (Nat.ne_of_lt (Heap.lt_size h1)) (fun z => nomatch z) h1, h2⟩
  · have hm : (s.heap.objs.size == sysModules) = false := beq_eq_false_iff_ne.mpr (Nat.ne_of_gt I.big)
    have hlen : (mergeT [] kvs).length ≤ sizeLine := by
      have h1 := Paired.length (mergeT_kt rel (m := []) (ms := []) .nil)
      have h2 := storedAllH_length xs ([] : List (List Key × Addr × Value))
      rw [List.length_nil, Nat.zero_add] at h2
      rw [h1]
      exact Nat.le_trans h2 (by rw [hl]; exact hz')
    obtain ⟨q', es, ep, g1, g2, g3, g4, _, g5⟩ := hd'
    refine ⟨.ref s.heap.objs.size, upd H s.heap.objs.size (.dT (mergeT [] kvs)), I.laid (t' := tk) (fun b o' e => hk b o' (fun z => nomatch z) e) (Nat.le_refl _) ⟨hlen, hm, _, (mergeT_kt rel .nil).keeps fun c ys ec => ?_, q', es, ep, g1, g2, g3, g4, g5⟩,
      rfl, q _ (I.hok.fresh (Nat.le_refl _))⟩
    rw [upd_ne (ne_of_none ec (I.hok.fresh (Nat.le_refl _)))]
    exact ec
end
section
variable {β : Type} [Py β] {F H : Hp}
def mergeDT (xs : List ((Int × Int) × β)) : List ((Int × Int) × β) := xs.foldl (fun m p => dPut m p.1 p.2) []
theorem mergeT_rd {kvs : List (List Key × V)} {xs : List ((Int × Int) × β)} (hs : RD F kvs xs) : ∀ {m : List (List Key × V)} {ms : List ((Int × Int) × β)}, RD F m ms → RD F (mergeT m kvs) (xs.foldl (fun m p => dPut m p.1 p.2) ms) := by
  induction hs with
  | nil => intro m ms h; exact h
  | @cons k v y kvs xs hv _ ih =>
    intro m ms h
    exact ih (h.put k hv)
theorem pairsT_of_rl {K : PySem.W.Frag} (s : Same F H) : ∀ {vs : List V} {xs : List ((Int × Int) × β)}, RL F vs xs → ∃ (ps : List (Addr × Addr)) (kvs : List (List Key × V)),
    vs = (ps.map fun p => V.ref p.1) ∧ Paired (PairT K H) ps kvs ∧ RD F kvs xs
  | _, [], h => ⟨[], [], RL.nil_ h, .nil, .nil⟩
  | _, x :: xs, h => by
    obtain ⟨w, ws, rfl, h1, h2⟩ := RL.cons_ h
    obtain ⟨ps, kvs, e, hp, hr⟩ := pairsT_of_rl (K := K) s h2
    obtain ⟨p, v1, v2, rfl, hp1, h3, h4⟩ := R.t2_ h1
    obtain ⟨b, w1, w2, rfl, hb, h5, h6⟩ := R.t2_ h3
    rw [R.int_ h5, R.int_ h6] at hb
    exact ⟨(p, b) :: ps, ([.inl x.1.1, .inl x.1.2], v2) :: kvs, by rw [e]; rfl, .cons ⟨SqT.of (s _ _ hp1), s _ _ hb⟩ hp, .cons (k := x.1) h4 hr⟩
end
/-! ### max and min of a list -/
def mxI : List Int → Option Int
  | [] => none
  | x :: xs => match mxI xs with
    | none => some x
    | some m => some (if m < x then x else m)
def mnI : List Int → Option Int
  | [] => none
  | x :: xs => match mnI xs with
    | none => some x
    | some m => some (if x < m then x else m)
theorem mxI_none : ∀ {xs : List Int}, mxI xs = none → xs = []
  | [], _ => rfl
  | x :: xs, h => by
    unfold mxI at h
    cases e : mxI xs <;> rw [e] at h <;> exact nomatch h
theorem mnI_none : ∀ {xs : List Int}, mnI xs = none → xs = []
  | [], _ => rfl
  | x :: xs, h => by
    unfold mnI at h
    cases e : mnI xs <;> rw [e] at h <;> exact nomatch h
theorem mxI_is : ∀ {xs : List Int} {m : Int}, mxI xs = some m → m ∈ xs ∧ ∀ y ∈ xs, y ≤ m
  | [], _, h => nomatch h
  | x :: xs, m, h => by
    unfold mxI at h
    cases e : mxI xs with
    | none =>
      rw [e] at h
      cases h
      rw [mxI_none e]
      exact ⟨List.mem_cons_self, fun y hy => by rw [List.mem_singleton.mp hy]; exact Int.le_refl _⟩
    | some n =>
      rw [e] at h
      obtain ⟨h1, h2⟩ := mxI_is e
      have h : (if n < x then x else n) = m := Option.some.inj h
      by_cases z : n < x
      · rw [if_pos z] at h
        subst h
        refine ⟨List.mem_cons_self, fun y hy => ?_⟩
        rcases List.mem_cons.mp hy with hy | hy
        · omega
        · have := h2 y hy; omega
      · rw [if_neg z] at h
        subst h
        refine ⟨List.mem_cons_of_mem _ h1, fun y hy => ?_⟩
        rcases List.mem_cons.mp hy with hy | hy
        · omega
        · exact h2 y hy
theorem mnI_is : ∀ {xs : List Int} {m : Int}, mnI xs = some m → m ∈ xs ∧ ∀ y ∈ xs, m ≤ y
  | [], _, h => nomatch h
  | x :: xs, m, h => by
    unfold mnI at h
    cases e : mnI xs with
    | none =>
      rw [e] at h
      cases h
      rw [mnI_none e]
      exact ⟨List.mem_cons_self, fun y hy => by rw [List.mem_singleton.mp hy]; exact Int.le_refl _⟩
    | some n =>
      rw [e] at h
      obtain ⟨h1, h2⟩ := mnI_is e
      have h : (if x < n then x else n) = m := Option.some.inj h
      by_cases z : x < n
      · rw [if_pos z] at h
        subst h
        refine ⟨List.mem_cons_self, fun y hy => ?_⟩
        rcases List.mem_cons.mp hy with hy | hy
        · omega
        · have := h2 y hy; omega
      · rw [if_neg z] at h
        subst h
        refine ⟨List.mem_cons_of_mem _ h1, fun y hy => ?_⟩
        rcases List.mem_cons.mp hy with hy | hy
        · omega
        · exact h2 y hy
theorem mxI_uq {xs : List Int} {m n : Int} (h : mxI xs = some m) (h1 : n ∈ xs) (h2 : ∀ y ∈ xs, y ≤ n) : m = n := by
  have a := mxI_is h
  have b := a.2 n h1
  have c := h2 m a.1
  omega
theorem mnI_uq {xs : List Int} {m n : Int} (h : mnI xs = some m) (h1 : n ∈ xs) (h2 : ∀ y ∈ xs, n ≤ y) : m = n := by
  have a := mnI_is h
  have b := a.2 n h1
  have c := h2 m a.1
  omega
section
variable {X : Cx} {K : PySem.W.Frag}
theorem cr_maxK (hc : X.calm = true) (h : X.K = K) : CallR X (.builtin "max") (rMax K) := by rw [← h]; exact cr_max hc
theorem cr_minK (hc : X.calm = true) (h : X.K = K) : CallR X (.builtin "min") (rMin K) := by rw [← h]; exact cr_min hc
end
end PG

set_option Elab.async false
set_option linter.all false
set_option maxRecDepth 100000
set_option maxHeartbeats 4000000
namespace PG
open PySem PySem.Spec PyProof.Rows L2
open PySem.W (T3 T4 Datum DatumOrd Holds HoldAll EachIs)
/-! ### an exception that was caught and is kept: tracked from then on -/
def excAt (cls : Value) (d : Option Addr) (a : Addr) : Heap → Prop := fun h => ∃ o vs, h.get? a = some o ∧ Zc cls d o ∧ o.data = .fields vs
def excO (cls : Value) (d : Option Addr) (a : Addr) : HO := .ext (excAt cls d a)
section
variable {X : Cx} {pins : List (Addr × Obj)} {σ : L2.St} {H : Hp} {s : Shared}
theorem adopt {a : Addr} {cls : Value} {d : Option Addr} (I : L2.Inv X pins σ H s) (ha : H a = none) (hp : excAt cls d a s.heap) (h0 : X.s_0.heap.get? a = none) (nL : a ≠ X.env.locals) (np : ∀ p ∈ X.pn ++ pins, p.1 ≠ a) :
    L2.Inv X pins σ (upd H a (excO cls d a)) s := by
  obtain ⟨o, vs, ho, hz, hd⟩ := id hp
  have keep : ∀ {b : Addr} {u : HO}, H b = some u → upd H a (excO cls d a) b = some u := fun {b u} q => (upd_ne (ne_of_none q ha)).trans q
  have bare : ∀ {b : Addr}, b ≠ a → H b = none → upd H a (excO cls d a) b = none := fun {b} z q => (upd_ne z).trans q
  refine ⟨I.ok, I.os, I.bare, ⟨I.base.keep, I.base.slot, fun b u q n hx => bare (fun z => ?_) (I.base.free b u q n hx), I.base.there, fun b xs q => keep (I.base.tups b xs q), fun b u v q => keep (I.base.frzs b u v q), fun b ps q => ?_⟩, I.loc, I.cell, bare (Ne.symm nL) I.free, fun y k e => bare (fun z => ?_) (I.freeC y k e), fun p hq => ?_, ?_, I.len⟩
  · rw [z, h0] at q; exact nomatch q
  · obtain ⟨more, r⟩ := I.base.tbls b ps q
    exact ⟨more, keep r⟩
  · obtain ⟨v, w, hw, hv⟩ := I.cell y k e
    rw [z, ho] at hw
    cases hw
    rw [hd] at hv
    exact nomatch hv
  · obtain ⟨q1, q2, q3⟩ := I.pin p hq
    exact ⟨q1, bare (np p hq) q2, q3⟩
  · exact L2.HOk.laidN I.hok (fun _ _ q => q) ha ⟨hp, ⟨o, ho⟩, fun g1 g2 x k => x.imp fun o' y => y.imp fun vs' z => ⟨k _ z.1, z.2⟩⟩
end
/-- what the clause 'except x as n', whose suite keeps the exception, wishes -/
def wKeep (K : PySem.W.Frag) (c : Value) (i : Nat) (ts : Addr → TS) (out : WX) (D : Ends) : WX := fun cls d σ H =>
  ∃ b, PySem.W.exmOne K cls c = some b ∧ (b = true → ∀ a, H a = none → ts a { nx := fun σ' H' => D.nx (σ'.set i none) (upd H' a (excO cls d a)), rt := fun _ _ => False, bk := fun _ _ => False, ct := fun _ _ => False } (σ.set i (some (.ref a))) H) ∧ (b = false → out cls d σ H)
section
variable {X : Cx} {x n : Str} {c : Value} {i : Nat} {body suite : List Stmt} {b1 : Stmt} {np q1 q2 : Pos} {tb : WX → TS} {ts : Addr → TS} {out : WX}
theorem ps_try_keep (hs : X.stack = X.env :: X.outer) (hf : X.env.frame = some X.env.locals) (hex : X.ex = []) (hN : X.N.Nodup) (hi : X.N[i]? = some n) (hl : X.env.kindOf n = some .local) (hc : Names X x c) (tk : Takes X out)
    (hb : ∀ (W : WX) (pn : List (Addr × Obj)) (xe : Value → Shared → Prop), Takes (X.tr pn xe) W → PassesOwn (model X.prog X.w) X.A X.env xe → PSs (X.tr pn xe) body (tb W))
    (hsu : ∀ (a : Addr) (o : Obj) (pn : List (Addr × Obj)), PSs (X.suite a ((a, o) :: pn)) (b1 :: suite) (ts a)) :
    PS X (.Try body [.ExceptHandler (some (.Name x np)) (some n) (b1 :: suite) q1] [] [] q2) (fun D σ H => tb (wKeep X.K c i ts out D) D σ H) := by
  refine ⟨fun pins s σ H D I wish => wpAny_Try_except ?_⟩
  have ok := I.ok
  have hfr : X.A.frames = some (X.env :: X.outer) := ok.frames.trans (by rw [hs])
  have run := (hb (wKeep X.K c i ts out D) (X.pn ++ pins) (fun e g1 => wpAny (model X.prog X.w) X.A (noteFrame e X.env) (fun _ g2 => wpAny (model X.prog X.w) X.A (setFlight e none)
    (fun _ g3 => wpAny (model X.prog X.w) X.A (handleBy e X.env [.ExceptHandler (some (.Name x np)) (some n) (b1 :: suite) q1]) (SP X pins D) X.xe g3) X.xe g2) X.xe g1)
    (fun u g ⟨a, B, sI, ps, τ, G, cls, d, eu, J0, nb, up, sky, na, eos, ag, b, hb1, yes, no⟩ => by
      subst eu
      have J : L2.Inv X pins τ G sI := J0.ofTry ok
      show wpAny (model X.prog X.w) X.A (noteFrame (.ref a) X.env) _ _ _
      refine Sky.land Zc.steady hfr hf (show Sky B (X.env :: X.outer) a (Zc cls d) X.env.locals g.heap by rw [← hs]; exact sky) fun k1 fl1 up1 => ?_
      have J1 : L2.Inv X pins τ G { g with heap := k1 } := J.landed nb fl1.1 (up.trans up1) eos ag
      obtain ⟨o1, vs1, ho1, hz1, hd1⟩ := fl1.there
      have off : a ∉ frs (X.env :: X.outer) := fun hm => by
        obtain ⟨_, o', eo, hnf⟩ := fl1.2.2.1.mem hm
        rw [ho1] at eo
        cases eo
        exact hnf _ hd1
      have nL : a ≠ X.env.locals := fun z => off (List.mem_filterMap.mpr ⟨X.env, List.mem_cons_self, by rw [hf, z]⟩)
      have nF : a ∉ X.fs := fun hm => by
        obtain ⟨e, he, q⟩ := List.mem_filterMap.mp hm
        exact off (List.mem_filterMap.mpr ⟨e, List.mem_cons_of_mem _ he, q⟩)
      have young : ∀ o, sI.heap.get? a ≠ some o := fun o q => by
        have z := nb a o q (by rw [hs]; exact off)
        rw [fl1.2.1] at z
        exact nomatch z
      have h0 : X.s_0.heap.get? a = none := by
        cases q : X.s_0.heap.get? a with
        | none => rfl
        | some o =>
          obtain ⟨o', z⟩ := J.base.there a o q (by rw [hex]; exact fun z => nomatch z)
          exact (young _ z).elim
      have offp : ∀ p ∈ X.pn ++ pins, p.1 ≠ a := fun p hp z => young p.2 (by rw [← z]; exact (J.pin p hp).1)
      have S1 := J1.suite ho1 hd1 na nL nF
      refine wpAny_handleBy_cons (codeAny_handlers_test ?_) (fun q => nomatch q)
      have look : PySem.W.Looks (model X.prog X.w) k1 (typeOf (.ref a)) cls := fun _ _ _ _ k q => wpAny_typeOf_ref (k _ _ ho1) (by rw [hz1.1]; exact q)
      have match_ := PySem.W.exm_one (M := model X.prog X.w) J1.kIn look hb1
      have named : ∀ {Q : Value → Shared → Prop} {E : Value → Shared → Prop}, Q c { g with heap := k1 } → wpAny (model X.prog X.w) (X.A.mark (some (.ref a))) (eval (.Name x np) X.env) Q E { g with heap := k1 } := fun {Q E} q => by
        obtain ⟨hg, hdbg, hm | ⟨hm, hv, hnn⟩⟩ := hc
        · exact ld_glob (X := X.suite a ((a, o1) :: (X.pn ++ pins))) S1 hg hm q hdbg
        · exact ld_blt (X := X.suite a ((a, o1) :: (X.pn ++ pins))) S1 hg hm hv q hnn hdbg
      refine named (match_.here ?_)
      cases b with
      | true =>
        refine codeAny_handlers_suite_as (HandSPX.lands_againZ fl1 fun k2 fl2 up2 => ?_)
        have J2 : L2.Inv X pins τ G { g with heap := k2 } := J.landed nb fl2.1 ((up.trans up1).trans up2) eos ag
        obtain ⟨o2, vs2, ho2, hz2, hd2⟩ := fl2.there
        refine store_ok (X := X.suite a ((a, o2) :: (X.pn ++ pins))) (v := .ref a) (J2.suite ho2 hd2 na nL nF) hN hi (.inl hl) rfl (fun g5 S5 => ?_) (.inr hl)
        refine wpAny_mono ((hsu a o2 (X.pn ++ pins)).run [] g5 _ G _ S5 (yes rfl a na)) (fun f g6 hsp => ?_) (fun _ _ z => z.elim)
        cases f with
        | next =>
          obtain ⟨τ6, G6, S6, q6⟩ := hsp
          refine gone_ok (X := X.suite a ((a, o2) :: (X.pn ++ pins))) S6 hN hi hl fun g7 S7 => ?_
          obtain ⟨hget, hn7, _⟩ := S7.pin (a, o2) (List.mem_append_left _ List.mem_cons_self)
          exact ⟨_, _, adopt (S7.unsuite ok) hn7 ⟨o2, vs2, hget, hz2, hd2⟩ h0 nL offp, q6⟩
        | brk => obtain ⟨_, _, _, q6⟩ := hsp; exact q6.elim
        | cont => obtain ⟨_, _, _, q6⟩ := hsp; exact q6.elim
        | ret u => obtain ⟨_, _, _, _, _, q6⟩ := hsp; exact q6.elim
      | false =>
        refine wpAny_handleBy_nil ?_
        obtain ⟨_, _, _, o3, vs3, T, oT, ts3, he, hz, hd, h1, hr⟩ := id fl1
        unfold PySem.passOn
        refine wpAny_bind (wpAny_field he hd h1 ?_)
        rw [if_neg (by simp : ¬ ((Value.ref T == Value.none) = true))]
        have up_ : wpAny (model X.prog X.w) X.A (setFlight (.ref a) X.env.frame) (fun _ g4 => wpAny (model X.prog X.w) X.A (throw (.ref a) : Sem Flow) (SP X pins D) X.xe g4) X.xe { g with heap := k1 } := by
          rw [hf]
          exact HandSPX.setFlight_upZ fl1 fun k2 fl2 up2 => wpAny_throw (tk _ _ ⟨a, B, sI, pins, τ, G, cls, d, rfl, J, nb, (up.trans up1).trans up2, .inr (.inr (by rw [hs]; exact fl2)), na, eos, ag, no rfl⟩)
        first
          | exact wpAny_bind up_
          | exact wpAny_bind (wpAny_pure (wpAny_bind up_)))
    PassesOwn.looking).run [] s σ H D (I.toTry _) wish
  refine wpAny_mono run (fun f g hsp => ?_) (fun _ _ z => z)
  cases f with
  | next => obtain ⟨τ, G, J, q⟩ := hsp; exact wpAny_execs_nil ⟨τ, G, J.ofTry ok, q⟩
  | brk => obtain ⟨τ, G, J, q⟩ := hsp; exact ⟨τ, G, J.ofTry ok, q⟩
  | cont => obtain ⟨τ, G, J, q⟩ := hsp; exact ⟨τ, G, J.ofTry ok, q⟩
  | ret u => obtain ⟨v, τ, G, J, r, q⟩ := hsp; exact ⟨v, τ, G, J.ofTry ok, r, q⟩
end
/-! ### isinstance of what was caught -/
section
variable {X : Cx}
theorem inst_of {a D : Addr} {h : Heap} (x : excAt (.ref D) none a h) : ∃ o, PySem.W.InstAt h a o D none := by
  obtain ⟨⟨oc, od, oda, osl⟩, vs, hg, ⟨h1, h2⟩, h3⟩ := x
  dsimp only at h1 h2 h3
  subst h1 h2 h3
  exact ⟨_, hg, rfl, rfl, trivial⟩
/-- whose class is t: what was caught, or a value of a built-in type -/
inductive KX (K : PySem.W.Frag) (H : Hp) : V → Value → Prop where
  | exc {a D : Addr} (e : H a = some (excO (.ref D) none a)) (c : ExcC K D) : KX K H (.ref a) (.ref D)
  | base {x : V} {t : Value} (h : TyX K H x t) : KX K H x t
theorem kx_of {pins : List (Addr × Obj)} {σ : L2.St} {H : Hp} {s : Shared} {x : V} {u t : Value} (I : L2.Inv X pins σ H s) (rx : RelV x u) (k : KX X.K H x t) : ∃ P : Heap → Prop, PySem.W.KitX X.K u t P ∧ P s.heap ∧ u ≠ .builtin "__main__.__loader__#opaque" := by
  cases k with
  | @exc a D e C =>
    cases (show u = Value.ref a from rx)
    obtain ⟨o, J⟩ := inst_of (show excAt (.ref D) none a s.heap from (I.hok a _ e).1)
    exact ⟨_, PySem.W.handS_kitx_exc C.hg C.hk C.hs C.hd C.ha C.hn C.ht C.hm, J, fun z => nomatch z⟩
  | base h => exact kit_of I rx h
def rIsU (K : PySem.W.Frag) : List V → Hp → VK → Prop := fun xs H Q => ∃ (x c : V) (t u : Value) (b : Bool), xs = [x, c] ∧ ClsV c u ∧ KX K H x t ∧ PySem.W.kitOne K t u = some b ∧ Q (.bl b) H
theorem isuK {K : PySem.W.Frag} (hK : X.K = K) : CallR X (.builtin "isinstance") (rIsU K) := by
  subst hK
  intro pins s σ H xs us Q I r ⟨x, c, t, u, b, ex, hc, k, e, q⟩
  subst ex
  obtain ⟨u1, u2, rfl, r1, r2⟩ := vals2 r
  cases hc.eq r2
  obtain ⟨P, Z, p, hx⟩ := kx_of I r1 k
  exact PySem.W.kia_one Z I.kIn p e hx fun tk => ⟨.bl b, H, I.tok tk, rfl, q⟩
def rIsUT (K : PySem.W.Frag) : List V → Hp → VK → Prop := fun xs H Q => ∃ (x : V) (tp : Addr) (cs : List V) (t : Value) (ws : List Value) (b : Bool), xs = [x, .ref tp] ∧ H tp = some (.tup cs) ∧ Paired ClsV cs ws ∧ KX K H x t ∧ PySem.W.kitAny K t ws = some b ∧ Q (.bl b) H
theorem isutK {K : PySem.W.Frag} (hK : X.K = K) : CallR X (.builtin "isinstance") (rIsUT K) := by
  subst hK
  intro pins s σ H xs us Q I r ⟨x, tp, cs, t, ws, b, ex, hT, hc, k, e, q⟩
  subst ex
  obtain ⟨u1, u2, rfl, r1, r2⟩ := vals2 r
  cases (show u2 = Value.ref tp from r2)
  obtain ⟨P, Z, p, hx⟩ := kx_of I r1 k
  obtain ⟨_, its, rv, ⟨oc, od, dt, sl⟩, h1, h2, n, h3⟩ := (show ObjOk X.prog X.w H s.heap tp (.tup cs) from I.hok tp _ hT)
  have e3 := ClsV.all hc rv
  subst e3
  dsimp only at h2 h3
  subst h2 h3
  exact PySem.W.kia_tup Z I.kIn p h1 e hx fun tk => ⟨.bl b, H, I.tok tk, rfl, q⟩
end
theorem kit_own {K : PySem.W.Frag} {t : Value} {C : Addr} {b : Bool} (hd : PySem.W.hasDictIn K C = true) (ht : PySem.W.typeIn K (.ref C) = some (.type "type")) (hs : PySem.W.subIn K t (.ref C) = some b) (ho : PySem.W.subIn K (.ref C) (.ref C) = some true) : PySem.W.kitOne K t (.ref C) = some b := by
  obtain ⟨cd, hc, _⟩ := PySem.W.any_some hd
  unfold PySem.W.kitOne PySem.W.kitCls
  by_cases z : (t == .ref C) = true
  · rw [if_pos z]
    have z := beq_iff_eq.mp z
    subst z
    exact ho.symm.trans hs
  · rw [if_neg z]
    show (if ((PySem.W.clsIn K C).isSome && PySem.W.typeIn K (.ref C) == some (.type "type")) = true then _ else _) = _
    rw [if_pos (by rw [hc, ht]; rfl)]
    exact hs
theorem kit_blt {K : PySem.W.Frag} {D : Addr} {T : String} {b : Bool} (hm : PySem.W.kitMeta T = true) (hs : PySem.W.subIn K (.ref D) (.type T) = some b) : PySem.W.kitOne K (.ref D) (.type T) = some b := by
  unfold PySem.W.kitOne PySem.W.kitCls
  rw [if_neg (by simp)]
  show (if PySem.W.kitMeta T = true then _ else _) = _
  rw [if_pos hm]
  exact hs
theorem any_no {K : PySem.W.Frag} {t c : Value} {cs : List Value} {r : Bool} (h : PySem.W.kitOne K t c = some false) (hr : PySem.W.kitAny K t cs = some r) : PySem.W.kitAny K t (c :: cs) = some r := kitAny_cons h (fun _ => hr) fun z => nomatch z
theorem any_yes {K : PySem.W.Frag} {t c : Value} {cs : List Value} (h : PySem.W.kitOne K t c = some true) : PySem.W.kitAny K t (c :: cs) = some true := kitAny_cons h (fun z => nomatch z) fun _ => rfl
/-! ### a call within a try -/
def tCallW (sp : Sp) (W : WX) (t : TA) : TE := fun σ H Q => t σ H fun vs H1 => sp vs H1 Q fun cls d H' => W cls d σ H'
theorem pe_callW {X : Cx} {k : Nat} {f : Addr} {fd : FuncData} {ps : List Str} {sp : Sp} {W : WX} {x : Str} {p pos : Pos} {e : Expr} {es : List Expr} {t : TA} (F : FnOk X.prog X.w X.K X.mg X.base (L2.CX X.prog X.w) k f fd ps sp) (hr : Room k X.A) (hg : Gl X x) (hm : X.mg x = some (.ref f)) (hk : PySem.W.keepIn X.K (.ref f) = true) (hb : Binds X.K fd ps [])
    (tk : Takes X W) (ha : PA X (e :: es) t) (hdb : (x == ("__debug__" : Str)) = false := by decide) (he : starEach (e :: es) X.env = (false, eval e X.env) :: starEach es X.env := by rfl) (hpl : (backTo pos (starEach es X.env)).any (·.1) = false := by rfl) :
    PE X (.Call (.Name x p) (e :: es) [] pos) (tCallW sp W t) := by
  refine ⟨fun pins s σ H Q I h => wpAny_Call_Name_kw (ld_glob I hg hm ?_ hdb)⟩
  refine PySem.W.callWith_K (h₀ := X.base) I.ok.mod.kin hk (thn (ha.run pos pins s σ H _ I h) fun us g ⟨vs, G, J, r, q⟩ => ⟨J.kIn, ?_⟩) he hpl
  have hl : us.length = ps.length := by rw [← r.length]; exact F.len _ _ _ _ q
  refine wpAny_call (codeAny_mono (F.run X.A X.stack g G ⟨us, []⟩ us vs Q (fun cls d H' => W cls d σ H') hr J.env0 (by have := hb g us J.kIn (by simpa using hl); simpa using this) r q) fun res g' hq => ?_)
  cases res with
  | error z => exact tk _ _ (XE.of_call J (fun _ _ _ h => h) hq)
  | ok fl =>
    cases fl with
    | ret u => exact J.after hq
    | next => exact hq.elim
    | brk => exact hq.elim
    | cont => exact hq.elim
/-- try: m, except one of those of L: k1, else k0 -/
def tryK {a : Type} (L : List String) (m : M Unit) (k0 : M a) (k1 : String → M a) : M a := match m with
  | .ok _ => k0
  | .error .bad => bad
  | .error (.exc n) => if n ∈ L then k1 n else bad
theorem wp_tryK {b : Type} {L : List String} {m : M Unit} {k0 : M b} {k1 : String → M b} {Q : b → Prop} {E : String → Prop} (h : wp (tryK L m k0 k1) Q E) : wp m (fun _ => wp k0 Q E) fun n => n ∈ L ∧ wp (k1 n) Q E := by
  cases m with
  | ok x => exact h
  | error e =>
    cases e with
    | bad => exact h
    | exc n =>
      by_cases z : n ∈ L
      · have e : tryK L (.error (.exc n)) k0 k1 = k1 n := if_pos z
        rw [e] at h
        exact ⟨z, h⟩
      · have e : tryK L (.error (.exc n)) k0 k1 = bad := if_neg z
        rw [e] at h
        exact h.elim
theorem wp_okE {a : Type} {x : a} {Q : a → Prop} {E : String → Prop} (h : wp (.ok x : M a) Q E) : Q x := h
theorem Ow.exc {Z : Ent} {F H H1 : Hp} {cs : List (Addr × HO)} (O : Ow Z F cs H) (k : Kp [] H H1) : Ow Z F cs H1 where
  g := {
    f := O.g.f
    s := fun b o e => k.k b o (fun z => nomatch z) (O.g.s b o e)
    k := fun b o hb e => k.k b o (fun z => nomatch z) (O.g.k b o hb e)
    t := fun b h => k.t b (O.g.t b h)
    n := O.g.n
    u := fun b xs e => by
      cases q : H b with
      | none =>
        left
        cases z : Z.H b with
        | none => rfl
        | some o => exact (O.g.t b (by rw [z]; exact fun w => nomatch w) q).elim
      | some o =>
        have := k.k b o (fun z => nomatch z) q
        rw [e] at this
        cases this
        exact O.g.u b xs q }
  cf := O.cf
  ch := fun c hc => k.k _ _ (fun z => nomatch z) (O.ch c hc)
  nd := O.nd
  ca := O.ca
  nt := O.nt
theorem mem1 {n a : String} (h : n ∈ [a]) : n = a := List.mem_singleton.mp h
theorem mem2 {n a b : String} (h : n ∈ [a, b]) : n = a ∨ n = b := by simpa using h
/-! ### lists of truths: count, index -/
theorem RL.bools {H : Hp} : ∀ {vs : List V} {xs : List Bool}, RL H vs xs → vs = xs.map V.bl
  | _, [], h => RL.nil_ h
  | _, x :: xs, h => by
    obtain ⟨w, ws, rfl, h1, h2⟩ := RL.cons_ h
    rw [R.bl_ h1, RL.bools h2]
    rfl
def cntB (k : Bool) : List Bool → Int
  | [] => 0
  | y :: r => (if y = k then 1 else 0) + cntB k r
theorem cnt_in (k : Bool) : ∀ bs : List Bool, PySem.Spec.countIn (.bool k) (bs.map PyData.bool) = cntB k bs
  | [] => rfl
  | b :: bs => by
    show (if same (PyData.bool b) (PyData.bool k) = true then (1 : Int) else 0) + PySem.Spec.countIn _ _ = _
    rw [cnt_in k bs]
    cases b <;> cases k <;> rfl
theorem bools_vals : ∀ {bs : List Bool} {its : List Value}, Vals (bs.map V.bl) its → its = bs.map Value.bool
  | [], its, r => by rw [List.map_nil] at r; cases r; rfl
  | b :: bs, its, r => by
    rw [List.map_cons] at r
    cases r with
    | cons h t => cases h; rw [List.map_cons, ← bools_vals t]
theorem reads_bools {hp : Heap} : ∀ bs : List Bool, ReadsAll hp (bs.map Value.bool) (bs.map PyData.bool) []
  | [] => .nil
  | b :: bs => .cons (as := []) (bs := []) (.bool b) (reads_bools bs)
def rCntB (K : PySem.W.Frag) : V → List V → Hp → VK → Prop := fun x xs H Q => ∃ (a : Addr) (bs : List Bool) (k : Bool), x = .ref a ∧ xs = [.bl k] ∧ SqL K H a (bs.map V.bl) ∧ Q (.int (cntB k bs)) H
theorem countBK {X : Cx} {K : PySem.W.Frag} (hK : X.K = K) : MtR X "list.count" (rCntB K) := by
  subst hK
  intro pins s σ H x xs v us Q I rx r ⟨a, bs, k, ex, exs, hs, q⟩
  subst ex exs
  cases rx
  obtain ⟨u, rfl, ru⟩ := vals1 r
  cases ru
  obtain ⟨its, rv, pl, _⟩ := I.list hs
  cases bools_vals rv
  refine count_list_bools (hp := s.heap) (xs := bs.map PyData.bool) pl.isList (reads_bools bs) (List.all_eq_true.mpr fun y hy => ?_) ?_
  · obtain ⟨b, _, rfl⟩ := List.mem_map.mp hy
    rfl
  · rw [cnt_in]
    exact ⟨.int (cntB k bs), H, I.tok _, ⟨_, rfl⟩, q⟩
def ixB (xs : List Bool) (y : Bool) : M Int := if y ∈ xs then .ok ((xs.findIdx (· == y) : Nat) : Int) else bad
theorem wp_ixB {a : Type} {Q : a → Prop} {E : String → Prop} {xs : List Bool} {y : Bool} {k : Int → M a} (h : wp (ixB xs y >>= k) Q E) : ∃ j, xs.findIdx (· == y) = j ∧ xs[j]? = some y ∧ (∀ (m : Nat) z, m < j → xs[m]? = some z → z ≠ y) ∧ wp (k (j : Int)) Q E := by
  unfold ixB at h
  by_cases hm : y ∈ xs
  · rw [if_pos hm] at h
    have hlt : xs.findIdx (· == y) < xs.length := List.findIdx_lt_length_of_exists ⟨y, hm, by simp⟩
    refine ⟨_, rfl, ?_, fun m z hmj hz e => ?_, h⟩
    · rw [List.getElem?_eq_getElem hlt]
      have := List.findIdx_getElem (w := hlt)
      rw [eq_of_beq this]
    · have := List.not_of_lt_findIdx hmj
      obtain ⟨hl, hz⟩ := List.getElem?_eq_some_iff.mp hz
      rw [hz, e] at this
      simp at this
  · rw [if_neg hm] at h; exact h.elim
theorem all_flat_bl : ∀ xs : List Bool, (xs.map V.bl).all flatV = true
  | [] => rfl
  | x :: xs => by rw [List.map_cons, List.all_cons, all_flat_bl xs]; rfl
theorem bl_noeq {xs : List Bool} {y : Bool} {j : Nat} (h : ∀ (m : Nat) z, m < j → xs[m]? = some z → z ≠ y) : ∀ (m : Nat) (z' : V), m < j → (xs.map V.bl)[m]? = some z' → eqV z' (.bl y) = false := fun m z' hm hz => by
  rw [List.getElem?_map] at hz
  cases e : xs[m]? with
  | none => rw [e] at hz; cases hz
  | some z =>
    rw [e] at hz
    have hz : V.bl z = z' := Option.some.inj hz
    subst hz
    have := h m z hm e
    revert this
    cases z <;> cases y <;> intro this <;> first | rfl | exact (this rfl).elim
theorem bl_at {xs : List Bool} {y : Bool} {j : Nat} (h : xs[j]? = some y) : (xs.map V.bl)[j]? = some (.bl y) := by rw [List.getElem?_map, h]; rfl
theorem bl_eq {y : Bool} : eqV (.bl y) (.bl y) = true := by cases y <;> rfl
/-- x in xs, of data that are no scalars -/
def inD {a : Type} [DecidableEq a] (x : a) (xs : List a) : Prop := x ∈ xs
instance {a : Type} [DecidableEq a] (x : a) (xs : List a) : Decidable (inD x xs) := @List.instDecidableMemOfLawfulBEq a instBEqOfDecidableEq _ x xs
theorem iteDx {c A B : Prop} {i : Decidable c} (h1 : c → A) (h2 : ¬ c → B) : if @decide c i = true then A else B := @iteD c A B i h1 h2
theorem iteNx {c A B : Prop} {i : Decidable c} (h1 : c → B) (h2 : ¬ c → A) : if (!@decide c i) = true then A else B := @iteN c A B i h1 h2
theorem sl43 (a b c d : V) : ¬ (HT.sIx [a, b, c, d].length 0 none = 0 ∧ HT.sIx [a, b, c, d].length [a, b, c, d].length (some (3 : Int)) = [a, b, c, d].length) := fun h => absurd h.2 (by show ¬ (HT.sIx 4 4 (some (3 : Int)) = 4); decide)
theorem dgetD_S {β : Type} [Py β] {F H : Hp} {a : Addr} {kvs : List (Key × V)} {i : Str} {xs : List (Str × β)} {z : V} {y : β} (e : H a = some (.dK kvs)) (hr : RD F kvs xs) (hz : R F z y) : ∃ o, DGet H a (.str i) o ∧ R F (o.getD z) ((dGet xs i).getD y) := by
  refine ⟨valV kvs (.inr i), DGet.k (k := .inr i) e, ?_⟩
  rcases hr.get i with ⟨h1, h2⟩ | ⟨u, v, h1, h2, h3⟩
  · rw [h1, show valV kvs (.inr i) = none from h2]; exact hz
  · rw [h1, show valV kvs (.inr i) = some v from h2]; exact h3
end PG

set_option Elab.async false
set_option linter.all false
set_option maxRecDepth 100000
set_option maxHeartbeats 4000000
namespace PG
open PySem PySem.Spec PyProof.Rows L2
open PySem.W (T3 T4 Datum DatumOrd Holds HoldAll EachIs)
/-! ### a list of lists that are all ours: the outer cell and the inner ones, any number of them, behind the other cells -/
abbrev LCV := Addr × List V
def lcV (c : LCV) : Addr × HO := (c.1, .lst c.2)
def llC (p : Addr) (ps : List LCV) : List (Addr × HO) := (p, .lst (ps.map fun c => V.ref c.1)) :: ps.map lcV
/-- the inner lists stand for these -/
inductive LLR {a : Type} [Py a] (F : Hp) : List LCV → List (List a) → Prop
  | nil : LLR F [] []
  | cons {c : LCV} {xs : List a} {ps : List LCV} {p : List (List a)} : RL F c.2 xs → LLR F ps p → LLR F (c :: ps) (xs :: p)
section
variable {a : Type} [Py a] {F F' : Hp}
theorem LLR.mono {ps : List LCV} {p : List (List a)} (h : LLR F ps p) (s : Same F F') : LLR F' ps p := by
  induction h with
  | nil => exact .nil
  | cons h _ ih => exact .cons (h.mono s) ih
theorem LLR.len {ps : List LCV} {p : List (List a)} (h : LLR F ps p) : ps.length = p.length := by
  induction h with
  | nil => rfl
  | cons _ _ ih => rw [List.length_cons, List.length_cons, ih]
theorem LLR.got {ps : List LCV} {p : List (List a)} (h : LLR F ps p) : ∀ {j : Nat} {xs : List a}, p[j]? = some xs → ∃ c, ps[j]? = some c ∧ RL F c.2 xs := by
  induction h with
  | nil => intro j xs e; simp at e
  | @cons c ys ps p h _ ih =>
    intro j xs e
    cases j with
    | zero =>
      have e : ys = xs := Option.some.inj e
      subst e
      exact ⟨c, rfl, h⟩
    | succ j => exact ih e
theorem LLR.set {ps : List LCV} {p : List (List a)} (h : LLR F ps p) {w : List V} {xs : List a} (hw : RL F w xs) (q : Addr) : ∀ j : Nat, LLR F (ps.set j (q, w)) (p.set j xs) := by
  induction h with
  | nil => intro j; exact .nil
  | cons h hs ih =>
    intro j
    cases j with
    | zero => exact .cons hw hs
    | succ j => exact .cons h (ih j)
theorem LLR.snoc {ps : List LCV} {p : List (List a)} (h : LLR F ps p) {w : List V} {xs : List a} (hw : RL F w xs) (q : Addr) : LLR F (ps ++ [(q, w)]) (p ++ [xs]) := by
  induction h with
  | nil => exact .cons hw .nil
  | cons h _ ih => exact .cons h ih
end
section
variable {Z : Ent} {F H : Hp} {S : List (Addr × HO)} {p : Addr} {ps : List LCV} {c : LCV} {j : Nat}
theorem ref_set (hj : ps[j]? = some c) (w : List V) : ((ps.set j (c.1, w)).map fun c => V.ref c.1) = ps.map fun c => V.ref c.1 := by
  refine List.ext_getElem? fun i => ?_
  rw [List.getElem?_map, List.getElem?_map, List.getElem?_set]
  by_cases h : j = i
  · subst h
    rw [if_pos rfl, hj]
    rw [if_pos (List.getElem?_eq_some_iff.mp hj).1]
    rfl
  · rw [if_neg h]
theorem llC_at (hj : ps[j]? = some c) : (S ++ llC p ps)[S.length + 1 + j]? = some (c.1, .lst c.2) := by
  rw [List.getElem?_append_right (by omega)]
  show (llC p ps)[S.length + 1 + j - S.length]? = _
  rw [show S.length + 1 + j - S.length = j + 1 by omega]
  show (ps.map lcV)[j]? = _
  rw [List.getElem?_map, hj]
  rfl
theorem llC_top : (S ++ llC p ps)[S.length]? = some (p, .lst (ps.map fun c => V.ref c.1)) := by
  rw [List.getElem?_append_right (Nat.le_refl _), Nat.sub_self]
  rfl
theorem Ow.llAt (O : Ow Z F (S ++ llC p ps) H) (hj : ps[j]? = some c) : H c.1 = some (.lst c.2) := O.at _ (llC_at hj)
theorem Ow.llTop (O : Ow Z F (S ++ llC p ps) H) : H p = some (.lst (ps.map fun c => V.ref c.1)) := O.at _ llC_top
/-- one of the inner lists becomes w -/
theorem Ow.llSet (O : Ow Z F (S ++ llC p ps) H) (hj : ps[j]? = some c) (w : List V) : Ow Z F (S ++ llC p (ps.set j (c.1, w))) (upd H c.1 (.lst w)) := by
  have z := O.set (S.length + 1 + j) (.lst w) (llC_at hj)
  have e : (S ++ llC p ps).set (S.length + 1 + j) (c.1, .lst w) = S ++ llC p (ps.set j (c.1, w)) := by
    rw [List.set_append_right _ _ (by omega), show S.length + 1 + j - S.length = j + 1 by omega]
    unfold llC
    rw [ref_set hj w, List.set_cons_succ, List.map_set]
    rfl
  rw [e] at z
  exact z
/-- a new inner list goes behind -/
theorem Ow.llPush {q : Addr} {w : List V} (O : Ow Z F ((q, .lst w) :: (S ++ llC p ps)) H) : Ow Z F (S ++ llC p (ps ++ [(q, w)])) (upd H p (.lst ((ps.map fun c => V.ref c.1) ++ [V.ref q]))) := by
  have z := O.set (S.length + 1) (.lst ((ps.map fun c => V.ref c.1) ++ [V.ref q])) (show ((q, HO.lst w) :: (S ++ llC p ps))[S.length + 1]? = some (p, _) from llC_top)
  refine z.perm ?_
  have e : ((q, HO.lst w) :: (S ++ llC p ps)).set (S.length + 1) (p, .lst ((ps.map fun c => V.ref c.1) ++ [V.ref q])) = (q, HO.lst w) :: (S ++ ((p, .lst ((ps.map fun c => V.ref c.1) ++ [V.ref q])) :: ps.map lcV)) := by
    rw [List.set_cons_succ, List.set_append_right _ _ (Nat.le_refl _), Nat.sub_self]
    rfl
  rw [e]
  unfold llC
  rw [List.map_append, List.map_append]
  show ((q, HO.lst w) :: (S ++ ((p, HO.lst ((ps.map fun c => V.ref c.1) ++ [V.ref q])) :: ps.map lcV))).Perm (S ++ ((p, HO.lst ((ps.map fun c => V.ref c.1) ++ [V.ref q])) :: (ps.map lcV ++ [(q, HO.lst w)])))
  have e2 : S ++ ((p, HO.lst ((ps.map fun c => V.ref c.1) ++ [V.ref q])) :: (ps.map lcV ++ [(q, HO.lst w)])) = (S ++ ((p, HO.lst ((ps.map fun c => V.ref c.1) ++ [V.ref q])) :: ps.map lcV)) ++ [(q, HO.lst w)] := by
    rw [List.append_assoc, List.cons_append]
  rw [e2]
  exact (List.perm_append_singleton _ _).symm
/-- an empty one: a new outer list -/
theorem Ow.llNew (O : Ow Z F ((p, .lst []) :: S) H) : Ow Z F (S ++ llC p []) H := O.perm (List.perm_append_singleton _ _).symm
theorem Ow.frzM {A B : List (Addr × HO)} {b : Addr} {o : HO} (O : Ow Z F (A ++ (b, o) :: B) H) (hz : Z.H b = none) : ∃ F', Ow Z F' (A ++ B) H ∧ Same F F' ∧ F' b = some o := by
  have e : (A ++ (b, o) :: B)[A.length]? = some (b, o) := by rw [List.getElem?_append_right (Nat.le_refl _), Nat.sub_self]; rfl
  obtain ⟨F', O', s, h⟩ := O.frzE A.length e hz
  rw [List.eraseIdx_append_of_length_le (Nat.le_refl _), Nat.sub_self] at O'
  exact ⟨F', O', s, h⟩
theorem Ow.frzAll {a : Type} [Py a] : ∀ {ps : List LCV} {F : Hp} {A : List (Addr × HO)} {xs : List (List a)}, Ow Z F (A ++ ps.map lcV) H → (∀ c ∈ ps, Z.H c.1 = none) → LLR F ps xs →
    ∃ F', Ow Z F' A H ∧ Same F F' ∧ RL F' (ps.map fun c => V.ref c.1) xs
  | [], F, A, xs, O, _, r => by
    cases r
    rw [List.map_nil, List.append_nil] at O
    exact ⟨F, O, Same.refl _, RL.nil⟩
  | c :: ps, F, A, xs, O, hz, r => by
    cases r with
    | @cons _ x _ q h1 h2 =>
      obtain ⟨F1, O1, s1, g1⟩ := Ow.frzM (A := A) (B := ps.map lcV) (b := c.1) (o := .lst c.2) O (hz c List.mem_cons_self)
      obtain ⟨F2, O2, s2, r2⟩ := Ow.frzAll O1 (fun d hd => hz d (List.mem_cons_of_mem _ hd)) (h2.mono s1)
      exact ⟨F2, O2, s1.trans s2, RL.cons (R.lst (s2 _ _ g1) ((h1.mono s1).mono s2)) r2⟩
/-- all of it is read alone from now on -/
theorem Ow.llFrz {a : Type} [Py a] {xs : List (List a)} (O : Ow Z F (S ++ llC p ps) H) (hp : Z.H p = none) (hz : ∀ c ∈ ps, Z.H c.1 = none) (r : LLR F ps xs) : ∃ F', Ow Z F' S H ∧ Same F F' ∧ R F' (.ref p) xs := by
  obtain ⟨F1, O1, s1, g1⟩ := Ow.frzM (A := S) (B := ps.map lcV) (b := p) (o := .lst (ps.map fun c => V.ref c.1)) O hp
  obtain ⟨F2, O2, s2, r2⟩ := Ow.frzAll O1 hz (r.mono s1)
  exact ⟨F2, O2, s1.trans s2, R.lst (s2 _ _ g1) r2⟩
end
section
variable {a : Type} [Py a] {F : Hp}
theorem LLR.atI {ps : List LCV} {p : List (List a)} (h : LLR F ps p) {i : Int} {y : List a} (e : L2.atI p i = some y) :
    ∃ j c, L2.atI (ps.map fun c => V.ref c.1) i = some (V.ref c.1) ∧ ps[j]? = some c ∧ RL F c.2 y ∧ ixN p.length i = some j := by
  unfold L2.atI at e
  cases hx : ixN p.length i with
  | none => rw [hx] at e; exact nomatch e
  | some j =>
    rw [hx] at e
    have e : p[j]? = some y := e
    obtain ⟨c, hc, hr⟩ := h.got e
    refine ⟨j, c, ?_, hc, hr, rfl⟩
    unfold L2.atI
    rw [List.length_map, h.len, hx]
    show (ps.map fun c => V.ref c.1)[j]? = _
    rw [List.getElem?_map, hc]
    rfl
theorem zs_set {H : Hp} {ps : List LCV} {c : LCV} {j : Nat} (h : ∀ d ∈ ps, H d.1 = none) (hj : ps[j]? = some c) (w : List V) : ∀ d ∈ ps.set j (c.1, w), H d.1 = none := fun d hd => by
  rcases List.mem_or_eq_of_mem_set hd with hd | hd
  · exact h d hd
  · rw [hd]; exact h c (List.mem_of_getElem? hj)
theorem zs_snoc {H : Hp} {ps : List LCV} {q : Addr} {w : List V} (h : ∀ d ∈ ps, H d.1 = none) (hq : H q = none) : ∀ d ∈ ps ++ [(q, w)], H d.1 = none := fun d hd => by
  rcases List.mem_append.mp hd with hd | hd
  · exact h d hd
  · rw [List.mem_singleton.mp hd]; exact hq
end
/-! ### a list so many times -/
def repL {a : Type} (k : Int) (xs : List a) : List a := (List.replicate k.toNat xs).flatten
theorem RL.rep {a : Type} [Py a] {H : Hp} {vs : List V} {xs : List a} (h : RL H vs xs) (k : Int) : RL H (repL k vs) (repL k xs) := by
  unfold repL
  induction k.toNat with
  | zero => exact RL.nil
  | succ n ih =>
    rw [List.replicate_succ, List.replicate_succ, List.flatten_cons, List.flatten_cons]
    exact RL.app h ih
def CRep (n : Nat) (k : Int) : Prop := -(2 ^ 63) ≤ k ∧ k < 2 ^ 63 ∧ n * k.toNat < 16777216
instance (n : Nat) (k : Int) : Decidable (CRep n k) := by unfold CRep; infer_instance
theorem R.tpN {a : Type} [Py a] {F : Hp} {p : Addr} {vs : List V} {xs : List a} (h : F p = some (.tup vs)) (r : RL F vs xs) : R F (.ref p) (Tp.mk xs) := by
  show Rep F (.ref p) (.tuple (xs.map Py.toD))
  exact .tup h r
/-! ### what is walked, K told outright (for comprehensions within one another) -/
section
variable {X : Cx} {K : PySem.W.Frag} {tg : Expr}
theorem piListK (h : X.K = K) {l : Expr} {tl : TE} (hl : PE X l tl) : PI X tg l (iList K tl) := by rw [← h]; exact pi_list hl
theorem piTupK (h : X.K = K) {l : Expr} {tl : TE} (hl : PE X l tl) : PI X tg l (iTup K tl) := by rw [← h]; exact pi_tup hl
theorem piEnumK (h : X.K = K) {e : Expr} {ta : TA} {p pos tpos : Pos} {elts : List Expr} {kk : Nat} (hg : Gl X "enumerate") (hm : X.mg "enumerate" = none) (ha : PA X [e] ta) (hs : starEach [e] X.env = [(false, eval e X.env)] := by rfl) :
    PI X (.Tuple elts kk tpos) (.Call (.Name "enumerate" p) [e] [] pos) (iEnum K ta) := by rw [← h]; exact pi_enum hg hm ha hs
theorem piZipK (h : X.K = K) {e e2 : Expr} {ta : TA} {p pos tpos : Pos} {elts : List Expr} {kk : Nat} (hg : Gl X "zip") (hm : X.mg "zip" = none) (ha : PA X [e, e2] ta)
    (hs : starEach [e, e2] X.env = (false, eval e X.env) :: starEach [e2] X.env := by rfl) (hpl : (backTo pos (starEach [e2] X.env)).any (·.1) = false := by rfl) :
    PI X (.Tuple elts kk tpos) (.Call (.Name "zip" p) [e, e2] [] pos) (iZip K ta) := by rw [← h]; exact pi_zip hg hm ha hs hpl
end
end PG

set_option Elab.async false
set_option linter.all false
set_option maxRecDepth 100000
set_option maxHeartbeats 4000000
/-! Plain mathematics over the monad M: no program in sight. -/
namespace PG
open PySem L2
open PySem.W (T3 T4 Datum DatumOrd)
section
variable {a b s i : Type}
theorem ok_b (x : a) (k : a → M b) : (Except.ok x >>= k) = k x := rfl
theorem okP_b (x : a) (k : a → M b) : ((Except.ok x : M a) >>= k) = k x := rfl
theorem ret_b (x : a) (k : a → M b) : (ret x >>= k) = k x := rfl
theorem chk_ok {c : Prop} [Decidable c] (h : c) : chk c = .ok () := by unfold chk; rw [if_pos h]
theorem chk_b {c : Prop} [Decidable c] (h : c) (k : Unit → M b) : (chk c >>= k) = k () := by rw [chk_ok h]; rfl
theorem opt_b {o : Option a} {x : a} (h : o = some x) (k : a → M b) : (opt o >>= k) = k x := by rw [h]; rfl
theorem bind_ok {m : M a} {x : a} (h : m = .ok x) (k : a → M b) : (m >>= k) = k x := by rw [h]; rfl
theorem appL_ok {xs : List a} {y : a} (h : xs.length < 16777216) : appL xs y = .ok (xs ++ [y]) := by unfold appL; rw [if_pos h]
theorem ixN_nat {n : Nat} {j : Int} (h0 : 0 ≤ j) (h : j < n) : ixN n j = some j.toNat := by unfold ixN; rw [if_pos h0, if_pos h]
theorem atI_of {xs : List a} {j : Int} {x : a} (h0 : 0 ≤ j) (h : xs[j.toNat]? = some x) : L2.atI xs j = some x := by
  have hl := (List.getElem?_eq_some_iff.mp h).1
  unfold L2.atI
  rw [ixN_nat h0 (by omega)]
  exact h
theorem atI_some {xs : List a} {j : Int} (h0 : 0 ≤ j) (h : j < xs.length) : ∃ x, L2.atI xs j = some x ∧ xs[j.toNat]? = some x := by
  have hl : j.toNat < xs.length := by omega
  exact ⟨xs[j.toNat], atI_of h0 (List.getElem?_eq_getElem hl), List.getElem?_eq_getElem hl⟩
theorem setI_ok {xs : List a} {j : Int} {y : a} (h0 : 0 ≤ j) (h : j < xs.length) : setI xs j y = .ok (xs.set j.toNat y) := by unfold setI; rw [ixN_nat h0 h]
theorem popI_ok {xs : List a} {j : Int} {y : a} (h0 : 0 ≤ j) (h : xs[j.toNat]? = some y) (hl : xs.length < 16777216) : popI xs j = .ok (y, xs.eraseIdx j.toNat) := by
  have h1 := (List.getElem?_eq_some_iff.mp h).1
  unfold popI
  rw [if_pos hl, ixN_nat h0 (by omega)]
  show (match xs[j.toNat]? with
    | some y => (Except.ok (y, xs.eraseIdx j.toNat) : M _)
    | none => bad) = _
  rw [h]
/-- loops by an invariant over the items gone through -/
theorem loopN_inv {f : i → s → M s} (P : List i → s → Prop) : ∀ {xs pre : List i} {x : s}, P pre x → (∀ pre y ys x, xs ++ [] = xs → P pre x → (∃ q, q ++ y :: ys = pre ++ y :: ys) → ∃ x', f y x = .ok x' ∧ P (pre ++ [y]) x') → ∃ x', loopN f xs x = .ok x' ∧ P (pre ++ xs) x' := by
  intro xs
  induction xs with
  | nil => intro pre x h _; exact ⟨x, rfl, by rw [List.append_nil]; exact h⟩
  | cons y ys ih =>
    intro pre x h hs
    obtain ⟨x1, e1, h1⟩ := hs pre y ys x (List.append_nil _) h ⟨pre, rfl⟩
    obtain ⟨x2, e2, h2⟩ := ih (pre := pre ++ [y]) h1 fun pre y ys x _ hp hq => hs pre y ys x (List.append_nil _) hp hq
    refine ⟨x2, ?_, by rw [List.append_assoc] at h2; exact h2⟩
    show (f y x >>= fun x' => loopN f ys x') = _
    rw [e1]
    exact e2
/-- .. with what is known of the items -/
theorem loopN_run {f : i → s → M s} {all : List i} (P : List i → s → Prop) {x : s} (h : P [] x) (hs : ∀ pre y post x, all = pre ++ y :: post → P pre x → ∃ x', f y x = .ok x' ∧ P (pre ++ [y]) x') : ∃ x', loopN f all x = .ok x' ∧ P all x' := by
  have go : ∀ (xs pre : List i) (x : s), all = pre ++ xs → P pre x → ∃ x', loopN f xs x = .ok x' ∧ P (pre ++ xs) x' := by
    intro xs
    induction xs with
    | nil => intro pre x _ h; exact ⟨x, rfl, by rw [List.append_nil]; exact h⟩
    | cons y ys ih =>
      intro pre x e h
      obtain ⟨x1, e1, h1⟩ := hs pre y ys x e h
      obtain ⟨x2, e2, h2⟩ := ih (pre ++ [y]) x1 (by rw [List.append_assoc]; exact e) h1
      refine ⟨x2, ?_, by rw [List.append_assoc] at h2; exact h2⟩
      show (f y x >>= fun x' => loopN f ys x') = _
      rw [e1]
      exact e2
  exact go all [] x rfl h
/-- a loop that goes on at each item -/
theorem loopM_run {r : Type} {f : i → s → M (Fl s r)} {all : List i} (P : List i → s → Prop) {x : s} (h : P [] x) (hs : ∀ pre y post x, all = pre ++ y :: post → P pre x → ∃ x', f y x = .ok (.nx x') ∧ P (pre ++ [y]) x') : ∃ x', loopM f all x = .ok (.nx x') ∧ P all x' := by
  have go : ∀ (xs pre : List i) (x : s), all = pre ++ xs → P pre x → ∃ x', loopM f xs x = .ok (.nx x') ∧ P (pre ++ xs) x' := by
    intro xs
    induction xs with
    | nil => intro pre x _ h; exact ⟨x, rfl, by rw [List.append_nil]; exact h⟩
    | cons y ys ih =>
      intro pre x e h
      obtain ⟨x1, e1, h1⟩ := hs pre y ys x e h
      obtain ⟨x2, e2, h2⟩ := ih (pre ++ [y]) x1 (by rw [List.append_assoc]; exact e) h1
      refine ⟨x2, ?_, by rw [List.append_assoc] at h2; exact h2⟩
      show (f y x >>= fun q => match q with
        | .nx x' => loopM f ys x'
        | .rt z => .ok (.rt z)) = _
      rw [e1]
      exact e2
  exact go all [] x rfl h
/-- .. that has no state -/
theorem loopM_all {r : Type} {f : i → Unit → M (Fl Unit r)} {all : List i} (hs : ∀ y ∈ all, f y () = .ok (.nx ())) : loopM f all () = .ok (.nx ()) := by
  obtain ⟨x, e, _⟩ := loopM_run (f := f) (all := all) (fun _ _ => True) (x := ()) trivial fun pre y post x e _ => ⟨(), by cases x; exact hs y (by rw [e]; simp), trivial⟩
  exact e
theorem compX_run {c : Type} {f : i → s → M (Option c × s)} {all : List i} (P : List i → List c → s → Prop) {x : s} (h : P [] [] x)
    (hs : ∀ pre y post acc x, all = pre ++ y :: post → P pre acc x → ∃ o x', f y x = .ok (o, x') ∧ P (pre ++ [y]) (match o with
      | some z => acc ++ [z]
      | none => acc) x') : ∃ acc x', compX f all [] x = .ok (acc, x') ∧ P all acc x' := by
  have go : ∀ (xs pre : List i) (acc : List c) (x : s), all = pre ++ xs → P pre acc x → ∃ acc' x', compX f xs acc x = .ok (acc', x') ∧ P (pre ++ xs) acc' x' := by
    intro xs
    induction xs with
    | nil => intro pre acc x _ h; exact ⟨acc, x, rfl, by rw [List.append_nil]; exact h⟩
    | cons y ys ih =>
      intro pre acc x e h
      obtain ⟨o, x1, e1, h1⟩ := hs pre y ys acc x e h
      obtain ⟨acc2, x2, e2, h2⟩ := ih (pre ++ [y]) _ x1 (by rw [List.append_assoc]; exact e) h1
      refine ⟨acc2, x2, ?_, by rw [List.append_assoc] at h2; exact h2⟩
      show (nox (f y x) >>= fun p => compX f ys (match p.1 with
        | some z => acc ++ [z]
        | none => acc) p.2) = _
      rw [e1]
      exact e2
  exact go all [] [] x rfl h
theorem compS_run {c : Type} {f : i → s → M (Option c × s)} {all : List i} (hl : all.length < 16777216) (P : List i → List c → s → Prop) {x : s} (h : P [] [] x)
    (hs : ∀ pre y post acc x, all = pre ++ y :: post → P pre acc x → ∃ o x', f y x = .ok (o, x') ∧ P (pre ++ [y]) (match o with
      | some z => acc ++ [z]
      | none => acc) x') : ∃ acc x', compS f all x = .ok (acc, x') ∧ P all acc x' := by
  unfold compS
  rw [chk_b hl]
  exact compX_run P h hs
/-- a plain map with a test -/
theorem compS_pure {c : Type} {f : i → Unit → M (Option c × Unit)} {all : List i} (g : i → Option c) (hl : all.length < 16777216) (hs : ∀ y ∈ all, f y () = .ok (g y, ())) : compS f all () = .ok (all.filterMap g, ()) := by
  obtain ⟨acc, x, e, h⟩ := compS_run (f := f) (all := all) hl (fun pre acc _ => acc = pre.filterMap g) (x := ()) rfl fun pre y post acc x e h => by
    refine ⟨g y, (), by cases x; exact hs y (by rw [e]; simp), ?_⟩
    rw [h, List.filterMap_append]
    cases e2 : g y with
    | none => simp [e2]
    | some z => simp [e2]
  rw [e, h]
end

/-! ### sorted lists -/
section
variable {a : Type}
/-- two sorted lists of the same things are one -/
theorem perm_sorted_eq {le : a → a → Bool} (anti : ∀ x y, le x y = true → le y x = true → x = y) : ∀ {xs ys : List a}, xs.Perm ys → xs.Pairwise (fun x y => le x y = true) → ys.Pairwise (fun x y => le x y = true) → xs = ys := by
  intro xs
  induction xs with
  | nil => intro ys h _ _; exact (List.nil_perm.mp h).symm
  | cons x xs ih =>
    intro ys h hx hy
    cases ys with
    | nil => exact absurd h.length_eq (by simp)
    | cons y ys =>
      rw [List.pairwise_cons] at hx hy
      have e : x = y := by
        have m1 : x ∈ y :: ys := h.mem_iff.mp List.mem_cons_self
        have m2 : y ∈ x :: xs := h.mem_iff.mpr List.mem_cons_self
        rcases List.mem_cons.mp m1 with r | r
        · exact r
        · rcases List.mem_cons.mp m2 with q | q
          · exact q.symm
          · exact anti x y (hx.1 y q) (hy.1 x r)
      subst e
      rw [ih (List.Perm.cons_inv h) hx.2 hy.2]
class LeOk (a : Type) [DecidableEq a] [DatumOrd a] : Prop where
  tr : ∀ x y z : a, leT x y = true → leT y z = true → leT x z = true
  tot : ∀ x y : a, (leT x y || leT y x) = true
  anti : ∀ x y : a, leT x y = true → leT y x = true → x = y
theorem leT_int (x y : Int) : leT x y = decide (x ≤ y) := by
  show (!decide (y < x)) = decide (x ≤ y)
  by_cases h : y < x
  · have : ¬ x ≤ y := by omega
    simp [h, this]
  · have : x ≤ y := by omega
    simp [h, this]
instance : LeOk Int where
  tr x y z h1 h2 := by
    rw [leT_int, decide_eq_true_eq] at h1 h2 ⊢
    omega
  tot x y := by
    rw [leT_int, leT_int, Bool.or_eq_true, decide_eq_true_eq, decide_eq_true_eq]
    omega
  anti x y h1 h2 := by
    rw [leT_int, decide_eq_true_eq] at h1 h2
    omega
theorem leT_p (x y : Int × Int) : leT x y = decide (x.1 < y.1 ∨ (x.1 = y.1 ∧ x.2 ≤ y.2)) := by
  show (!(if y.1 = x.1 then decide (y.2 < x.2) else decide (y.1 < x.1))) = _
  by_cases h : y.1 = x.1
  · rw [if_pos h]
    by_cases h2 : y.2 < x.2
    · have : ¬ (x.1 < y.1 ∨ (x.1 = y.1 ∧ x.2 ≤ y.2)) := by omega
      simp [h2, this]
    · have : (x.1 < y.1 ∨ (x.1 = y.1 ∧ x.2 ≤ y.2)) := by omega
      simp [h2, this]
  · rw [if_neg h]
    by_cases h2 : y.1 < x.1
    · have : ¬ (x.1 < y.1 ∨ (x.1 = y.1 ∧ x.2 ≤ y.2)) := by omega
      simp [h2, this]
    · have : (x.1 < y.1 ∨ (x.1 = y.1 ∧ x.2 ≤ y.2)) := by omega
      simp [h2, this]
instance : LeOk (Int × Int) where
  tr x y z h1 h2 := by
    rw [leT_p, decide_eq_true_eq] at h1 h2 ⊢
    omega
  tot x y := by
    rw [leT_p, leT_p, Bool.or_eq_true, decide_eq_true_eq, decide_eq_true_eq]
    omega
  anti x y h1 h2 := by
    rw [leT_p, decide_eq_true_eq] at h1 h2
    exact Prod.ext (by omega) (by omega)
theorem leT_3 (x y : T3 Int Int Int) : leT x y = decide (x.a < y.a ∨ (x.a = y.a ∧ (x.b < y.b ∨ (x.b = y.b ∧ x.c ≤ y.c)))) := by
  show (!DatumOrd.lt y x) = _
  have e : DatumOrd.lt y x = decide (y.a < x.a ∨ (y.a = x.a ∧ (y.b < x.b ∨ (y.b = x.b ∧ y.c < x.c)))) := by
    rw [Bool.eq_iff_iff, decide_eq_true_eq]
    show (if y.a = x.a then (if y.b = x.b then decide (y.c < x.c) else decide (y.b < x.b)) else decide (y.a < x.a)) = true ↔ _
    by_cases h : y.a = x.a
    · rw [if_pos h]
      by_cases h2 : y.b = x.b
      · rw [if_pos h2, decide_eq_true_eq]; omega
      · rw [if_neg h2, decide_eq_true_eq]; omega
    · rw [if_neg h, decide_eq_true_eq]; omega
  rw [e, Bool.eq_iff_iff, Bool.not_eq_true', decide_eq_false_iff_not, decide_eq_true_eq]
  omega
instance : LeOk (T3 Int Int Int) where
  tr x y z h1 h2 := by
    rw [leT_3, decide_eq_true_eq] at h1 h2 ⊢
    omega
  tot x y := by
    rw [leT_3, leT_3, Bool.or_eq_true, decide_eq_true_eq, decide_eq_true_eq]
    omega
  anti x y h1 h2 := by
    rw [leT_3, decide_eq_true_eq] at h1 h2
    exact PySem.W.T3.same (by omega) (by omega) (by omega)
variable [DecidableEq a] [DatumOrd a] [LeOk a]
theorem sortT_perm (xs : List a) : (sortT xs).Perm xs := List.mergeSort_perm xs _
theorem sortT_sorted (xs : List a) : (sortT xs).Pairwise (fun x y => leT x y = true) := List.pairwise_mergeSort (fun x y z => LeOk.tr x y z) (fun x y => LeOk.tot x y) xs
theorem sortT_eq {xs ys : List a} (h : xs.Perm ys) : sortT xs = sortT ys :=
  perm_sorted_eq LeOk.anti ((sortT_perm xs).trans (h.trans (sortT_perm ys).symm)) (sortT_sorted xs) (sortT_sorted ys)
theorem sortT_id {xs : List a} (h : xs.Pairwise (fun x y => leT x y = true)) : sortT xs = xs := perm_sorted_eq LeOk.anti (sortT_perm xs) (sortT_sorted xs) h
theorem sortT_idem (xs : List a) : sortT (sortT xs) = sortT xs := sortT_id (sortT_sorted xs)
theorem sortT_len (xs : List a) : (sortT xs).length = xs.length := (sortT_perm xs).length_eq
theorem sortT_mem {xs : List a} {x : a} : x ∈ sortT xs ↔ x ∈ xs := (sortT_perm xs).mem_iff
end
/-! ### numbers -/
theorem cdivW {i j : Int} (h : 0 < j) (h2 : j ≤ 10 ^ 40) : CDivW i j := by
  have h3 : j.natAbs ≤ 10 ^ 40 := by omega
  exact wide_div (b := 200) h (Nat.lt_of_le_of_lt h3 (by decide)) (by decide) (by decide)
theorem cmulW {i j : Int} (h1 : i.natAbs < 2 ^ 100000) (h2 : j.natAbs < 2 ^ 100000) : CMulW i j := wide_mul h1 h2 (by decide) (by decide) (by decide)

theorem erase_perm {a : Type} : ∀ {l : List a} {j : Nat} (h : j < l.length), (l[j] :: l.eraseIdx j).Perm l
  | x :: l, 0, _ => List.Perm.refl _
  | x :: l, j + 1, h => by
    have h' : j < l.length := by simpa using h
    show (l[j] :: x :: l.eraseIdx j).Perm (x :: l)
    exact (List.Perm.swap _ _ _).trans (List.Perm.cons _ (erase_perm h'))

/-! ### trees -/
abbrev Tie := T3 Int Int Int
abbrev Tr := List Int × List Tie
def tieOf (p q c : Int) : Tie := if p ≤ q then ⟨p, q, c⟩ else ⟨q, p, c⟩
/-- place by place, each new one tied to one that is there -/
inductive Grown : List Int → List Tie → Prop
  | one (p : Int) : Grown [p] []
  | more {ps : List Int} {ts : List Tie} (q p c : Int) : Grown ps ts → q ∈ ps → p ∉ ps → Grown (ps ++ [p]) (ts ++ [tieOf p q c])
theorem tieOf_lt {p q c : Int} (h : p ≠ q) : (tieOf p q c).a < (tieOf p q c).b ∧ ((tieOf p q c).a = p ∧ (tieOf p q c).b = q ∨ (tieOf p q c).a = q ∧ (tieOf p q c).b = p) ∧ (tieOf p q c).c = c := by
  unfold tieOf
  by_cases h1 : p ≤ q
  · rw [if_pos h1]; exact ⟨by show p < q; omega, .inl ⟨rfl, rfl⟩, rfl⟩
  · rw [if_neg h1]; exact ⟨by show q < p; omega, .inr ⟨rfl, rfl⟩, rfl⟩
theorem Grown.in {ps : List Int} {ts : List Tie} (g : Grown ps ts) : ∀ t ∈ ts, t.a ∈ ps ∧ t.b ∈ ps ∧ t.a < t.b := by
  induction g with
  | one p => intro t h; cases h
  | @more ps ts q p c g hq hp ih =>
    intro t h
    rcases List.mem_append.mp h with h | h
    · obtain ⟨h1, h2, h3⟩ := ih t h
      exact ⟨List.mem_append_left _ h1, List.mem_append_left _ h2, h3⟩
    · have e := List.mem_singleton.mp h
      subst e
      have hpq : p ≠ q := fun e => hp (e ▸ hq)
      obtain ⟨l, hab, _⟩ := tieOf_lt (c := c) hpq
      have mp : p ∈ ps ++ [p] := by simp
      have mq : q ∈ ps ++ [p] := List.mem_append_left _ hq
      rcases hab with ⟨h1, h2⟩ | ⟨h1, h2⟩
      · exact ⟨by rw [h1]; exact mp, by rw [h2]; exact mq, l⟩
      · exact ⟨by rw [h1]; exact mq, by rw [h2]; exact mp, l⟩
theorem Grown.len {ps : List Int} {ts : List Tie} (g : Grown ps ts) : ps.length = ts.length + 1 := by
  induction g with
  | one p => rfl
  | more q p c g hq hp ih => rw [List.length_append, List.length_append, ih]; rfl
theorem Grown.nd {ps : List Int} {ts : List Tie} (g : Grown ps ts) : ps.Nodup := by
  induction g with
  | one p => simp
  | more q p c g hq hp ih => exact List.nodup_append.mpr ⟨ih, by simp, fun x hx y hy e => by rw [List.mem_singleton.mp hy] at e; exact hp (e ▸ hx)⟩
/-- a tree: its worths, its ties sorted -/
structure TreeOk (t : Tr) : Prop where
  ex : ∃ ps ts, Grown ps ts ∧ ps.Perm (rangeL 0 (t.1.length : Int)) ∧ t.2 = sortT ts
theorem TreeOk.pos {t : Tr} (h : TreeOk t) : 1 ≤ t.1.length := by
  obtain ⟨ps, ts, g, p, e⟩ := h.ex
  have h1 := p.length_eq
  rw [rangeL_length] at h1
  have := g.len
  omega
theorem TreeOk.len {t : Tr} (h : TreeOk t) : t.1.length = t.2.length + 1 := by
  obtain ⟨ps, ts, g, p, e⟩ := h.ex
  have h1 := p.length_eq
  rw [rangeL_length] at h1
  have := g.len
  rw [e, sortT_len]
  omega
theorem rangeL_mem' {lo hi x : Int} : x ∈ rangeL lo hi ↔ lo ≤ x ∧ x < hi := by
  unfold rangeL
  rw [List.mem_map]
  constructor
  · rintro ⟨j, hj, rfl⟩
    have := List.mem_range.mp hj
    omega
  · rintro ⟨h1, h2⟩
    exact ⟨(x - lo).toNat, List.mem_range.mpr (by omega), by omega⟩
theorem TreeOk.tie {t : Tr} (h : TreeOk t) : ∀ x ∈ t.2, 0 ≤ x.a ∧ x.a < x.b ∧ x.b < (t.1.length : Int) := by
  obtain ⟨ps, ts, g, p, e⟩ := h.ex
  intro x hx
  rw [e, sortT_mem] at hx
  obtain ⟨h1, h2, h3⟩ := g.in x hx
  have a1 := rangeL_mem'.mp (p.mem_iff.mp h1)
  have a2 := rangeL_mem'.mp (p.mem_iff.mp h2)
  exact ⟨a1.1, h3, a2.2⟩
theorem TreeOk.sorted {t : Tr} (h : TreeOk t) : sortT t.2 = t.2 := by
  obtain ⟨ps, ts, g, p, e⟩ := h.ex
  rw [e, sortT_idem]
theorem sort2 (x y : Int) : sortT [x, y] = if x ≤ y then [x, y] else [y, x] := by
  by_cases h : x ≤ y
  · rw [if_pos h]
    exact sortT_id (by simp [leT_int, h])
  · rw [if_neg h]
    have e : sortT [x, y] = sortT [y, x] := sortT_eq (List.Perm.swap _ _ _)
    rw [e]
    exact sortT_id (by simp [leT_int]; omega)

theorem fm_congr {a b : Type} {f g : a → Option b} : ∀ {l : List a}, (∀ x ∈ l, f x = g x) → l.filterMap f = l.filterMap g
  | [], _ => rfl
  | x :: l, h => by
    have h1 := h x List.mem_cons_self
    have h2 := fm_congr (l := l) fun y hy => h y (List.mem_cons_of_mem _ hy)
    rw [List.filterMap_cons, List.filterMap_cons, h1, h2]
end PG

set_option Elab.async false
set_option linter.all false
set_option maxRecDepth 100000
namespace G
open PySem PySem.Spec PyProof.Rows L2 PG
open PySem.W (T3 T4 Datum DatumOrd)
def top (i : Nat) : Stmt := PySem.Challenge.pw_everyseat_k09_rules_judged.main.body.getD i (.Pass ⟨0, 0, 0, 0⟩)
structure Nb (mg : Str → Option Value) : Prop where
  b_bool : mg "bool" = none
  b_isinstance : mg "isinstance" = none
  b_len : mg "len" = none
  b_list : mg "list" = none
  b_range : mg "range" = none
  c_MOST : ∃ u, mg "MOST" = some u ∧ RelV (.int 3) u
section
variable {P : Program} {w : World} {K : PySem.W.Frag} {mg : Str → Option Value} {base : Heap}
abbrev s_may_stand : Stmt := top 2
theorem sc_may_stand : FnScope ["told", "leaves", "many"] ["told", "leaves", "many"] (defScope s_may_stand) := ⟨rfl, rfl, rfl, by decide +kernel, rfl, by decide +kernel, by decide +kernel⟩
def m_may_stand : Nat → Sm → (Tp Str) → Int → M (Bool)
  | 0, _, _, _ => bad
  | k_ + 1, x_told, x_leaves, x_many =>
    if (Sm.word x_told) = ("number" : Str) then (
    .ok true)
    else (
    if (Sm.word x_told) ∈ ([(("own" : Str), ("tie" : Str)).1, (("own" : Str), ("tie" : Str)).2]) then (
    .ok (decide ((Sm.word x_told) ∈ (Tp.l x_leaves))))
    else (
    if (Sm.word x_told) ∈ ([(("so" : Str), ("more" : Str)).1, (("so" : Str), ("more" : Str)).2]) then (
    if (Sm.word x_told) ∈ (Tp.l x_leaves) then (
    opt (Sm.int? x_told) >>= fun y63 =>
    if (0 : Int) ≤ y63 then (
    .ok (decide (y63 < x_many)))
    else (
    .ok false))
    else (
    .ok false))
    else (
    opt (Sm.two? x_told) >>= fun y70 =>
    m_may_stand k_ y70.1 x_leaves x_many >>= fun r80 =>
    if r80 = true then (
    opt (Sm.two? x_told) >>= fun y87 =>
    m_may_stand k_ y87.2 x_leaves x_many >>= fun r97 =>
    .ok r97)
    else (
    .ok false))))
def sp_may_stand (k_ : Nat) (mg : Str → Option Value) : Sp := fun vs H Q E => ∃ (F : Hp) (v_told : V) (x_told : Sm) (v_leaves : V) (x_leaves : (Tp Str)) (x_many : Int), vs = [v_told, v_leaves, V.int x_many] ∧ Pre F [] H ∧ R (a := Sm) F v_told x_told ∧ R (a := (Tp Str)) F v_leaves x_leaves ∧
  wp (m_may_stand k_ x_told x_leaves x_many) (fun r => ∀ (F' H' : Hp), Gr [] F H F' H' → Q (V.bl r) H')
  (fun n => ∀ (C : Addr) (H' : Hp), mg (Str.ofString n) = some (.ref C) → Kp [] H H' → E (.ref C) none H')
set_option maxHeartbeats 2000000 in
theorem ok_may_stand (nb : Nb mg) (D : Df K mg "may_stand" "may_stand" s_may_stand ["told", "leaves", "many"]) : ∀ k_ : Nat, Ca P w K mg base "may_stand" (k_ + 1) ["told", "leaves", "many"] (sp_may_stand k_ mg) := by
  intro k_
  induction k_ with
  | zero =>
    refine Ca.mk' D sc_may_stand (fun vs H Q E h => ?_) (fun q_ f_ cdv A outer s H vs Q E hr h => ?_)
    · obtain ⟨F, _, _, _, _, _, rfl, _⟩ := h
      rfl
    · obtain ⟨F, _, _, _, _, _, rfl, _, _, _, hk⟩ := h
      exact hk.elim
  | succ k_ ih_ =>
    have C_may_stand := ih_
    obtain ⟨fa_may_stand, fd_may_stand, G_may_stand, M_may_stand, K_may_stand, B_may_stand⟩ := C_may_stand.ex
    refine Ca.mk' D sc_may_stand (fun vs H Q E h => ?_) (fun q_ f_ cdv A outer s H vs Q E hr h => ?_)
    · obtain ⟨F, _, _, _, _, _, rfl, _⟩ := h
      rfl
    · obtain ⟨F, v_told, x_told, v_leaves, x_leaves, x_many, rfl, P0, f_told, f_leaves, hk⟩ := h
      have nd := sc_may_stand.nd
      have hu64 := hr.units
      have hu128 := hu128_of hr
      have O := P0.start
      refine ⟨_, (pss_cons (ps_if (pt_cmpR (op_eqT Str hu64) (pe_ix (ixTupK (K := K) rfl) (pv 0) pe_int (fun _ _ => rfl)) pe_str (nomark _)) (pss_one (ps_ret pe_bl)) pss_nil)
  (pss_cons (ps_if (pt_cmpR (op_inT Str hu64) (pe_ix (ixTupK (K := K) rfl) (pv 0) pe_int (fun _ _ => rfl)) (pe_tup (pa_cons pe_str (pa_cons pe_str pa_nil))) rfl) (pss_one (ps_ret (pe_cmpR (op_inT Str hu64) (pe_ix (ixTupK (K := K) rfl) (pv 0) pe_int (fun _ _ => rfl)) (pv 1) rfl))) pss_nil)
  (pss_cons (ps_if (pt_cmpR (op_inT Str hu64) (pe_ix (ixTupK (K := K) rfl) (pv 0) pe_int (fun _ _ => rfl)) (pe_tup (pa_cons pe_str (pa_cons pe_str pa_nil))) rfl) (pss_one (ps_ret (pe_and (pe_cmpR (op_inT Str hu64) (pe_ix (ixTupK (K := K) rfl) (pv 0) pe_int (fun _ _ => rfl)) (pv 1) rfl) (pe_one (pe_chain op_le op_lt pe_int (pe_ix (ixTupK (K := K) rfl) (pv 0) pe_int (fun _ _ => rfl)) (pv 2)))))) pss_nil)
  (pss_one (ps_ret (pe_and (pe_call G_may_stand (hr.mono (by omega)) rfl M_may_stand K_may_stand B_may_stand .nil (passes_call (takes_of rfl rfl rfl rfl) fun _ _ _ _ h => h) (pa_cons (pe_ix (ixTupK (K := K) rfl) (pv 0) pe_int (fun _ _ => rfl)) (pa_cons (pv 1) (pa_cons (pv 2) pa_nil)))) (pe_one (pe_call G_may_stand (hr.mono (by omega)) rfl M_may_stand K_may_stand B_may_stand .nil (passes_call (takes_of rfl rfl rfl rfl) fun _ _ _ _ h => h) (pa_cons (pe_ix (ixTupK (K := K) rfl) (pv 0) pe_int (fun _ _ => rfl)) (pa_cons (pv 1) (pa_cons (pv 2) pa_nil))))))))))), ?_⟩
      obtain ⟨p1, w2, e3, h4⟩ := R.sm_ f_told
      cases e3
      refine ⟨_, rfl, _, _, _, _, rfl, rfl, (SqTF O.s h4), (atI0 _ _), _, _, R.str, R.str, _, rfl, ?_⟩
      refine iteD (fun q5 => ?_) (fun q5 => ?_)
      · have hk := wp_if hk q5
        exact hk _ _  O.g 
      · have hk := wp_el hk q5
        obtain ⟨p6, w7, e8, h9⟩ := R.sm_ f_told
        cases e8
        refine ⟨_, rfl, _, _, _, _, rfl, rfl, (SqTF O.s h9), (atI0 _ _), (by show 2 ≤ sizeLine; decide), fun p10 hp11 => ?_⟩
        obtain ⟨F12, O13, S14, h15⟩ := O.putE hp11 (.tup [V.str ("own" : Str), V.str ("tie" : Str)])
        have f_told := f_told.mono S14
        have f_leaves := f_leaves.mono S14
        have h4 := S14 _ _ h4
        have h9 := S14 _ _ h9
        have h16 : R (a := (Str × Str)) F12 (.ref p10) (("own" : Str), ("tie" : Str)) := R.t2 h15 R.str R.str
        obtain ⟨p17, v20, v21, e18, h19, r22, r23⟩ := R.t2_ h16
        cases e18
        obtain rfl := R.str_ r22
        obtain rfl := R.str_ r23
        refine ⟨_, _, _, _, R.str, rfl, (.inr (O13.s _ _ h19)), (RL.mono (RL.cons R.str (RL.cons R.str RL.nil)) O13.s), _, rfl, ?_⟩
        refine iteD (fun q24 => ?_) (fun q24 => ?_)
        · have hk := wp_if hk q24
          obtain ⟨p25, w26, e27, h28⟩ := R.sm_ f_told
          cases e27
          obtain ⟨p29, w30, e31, h32, hl33⟩ := R.tp_ f_leaves
          cases e31
          refine ⟨_, rfl, _, _, _, _, rfl, rfl, (SqTF O13.s h28), (atI0 _ _), _, rfl, _, _, _, _, R.str, rfl, (.inr (O13.s _ _ h32)), (RL.mono (hl33) O13.s), ?_⟩
          exact hk _ _  O13.g 
        · have hk := wp_el hk q24
          obtain ⟨p34, w35, e36, h37⟩ := R.sm_ f_told
          cases e36
          refine ⟨_, rfl, _, _, _, _, rfl, rfl, (SqTF O13.s h37), (atI0 _ _), (by show 2 ≤ sizeLine; decide), fun p38 hp39 => ?_⟩
          obtain ⟨F40, O41, S42, h43⟩ := O13.putE hp39 (.tup [V.str ("so" : Str), V.str ("more" : Str)])
          have f_told := f_told.mono S42
          have f_leaves := f_leaves.mono S42
          have h4 := S42 _ _ h4
          have h9 := S42 _ _ h9
          have h16 := h16.mono S42
          have h19 := S42 _ _ h19
          have h37 := S42 _ _ h37
          have h44 : R (a := (Str × Str)) F40 (.ref p38) (("so" : Str), ("more" : Str)) := R.t2 h43 R.str R.str
          obtain ⟨p45, v48, v49, e46, h47, r50, r51⟩ := R.t2_ h44
          cases e46
          obtain rfl := R.str_ r50
          obtain rfl := R.str_ r51
          refine ⟨_, _, _, _, R.str, rfl, (.inr (O41.s _ _ h47)), (RL.mono (RL.cons R.str (RL.cons R.str RL.nil)) O41.s), _, rfl, ?_⟩
          refine iteD (fun q52 => ?_) (fun q52 => ?_)
          · have hk := wp_if hk q52
            obtain ⟨p53, w54, e55, h56⟩ := R.sm_ f_told
            cases e55
            obtain ⟨p57, w58, e59, h60, hl61⟩ := R.tp_ f_leaves
            cases e59
            refine ⟨_, rfl, _, _, _, _, rfl, rfl, (SqTF O41.s h56), (atI0 _ _), _, rfl, _, _, _, _, R.str, rfl, (.inr (O41.s _ _ h60)), (RL.mono (hl61) O41.s), _, rfl, ?_⟩
            refine iteD (fun q62 => ?_) (fun q62 => ?_)
            · have hk := wp_if hk q62
              obtain ⟨y63, e64, hk⟩ := wp_opt hk
              obtain ⟨p65, w66, e67, h68⟩ := R.sm_int f_told e64
              cases e67
              refine ⟨_, rfl, _, _, _, _, rfl, rfl, (SqTF O41.s h68), rfl, _, _, rfl, rfl, _, rfl, ?_⟩
              refine iteD (fun q69 => ?_) (fun q69 => ?_)
              · have hk := wp_if hk q69
                refine ⟨_, rfl, _, _, rfl, rfl, ?_⟩
                exact hk _ _  O41.g 
              · have hk := wp_el hk q69
                exact hk _ _  O41.g 
            · have hk := wp_el hk q62
              exact hk _ _  O41.g 
          · have hk := wp_el hk q52
            obtain ⟨y70, e71, hk⟩ := wp_opt hk
            obtain ⟨p72, w73, v74, v75, e76, h77, r78, r79⟩ := R.sm_two f_told e71
            cases e76
            refine ⟨_, rfl, _, _, _, _, rfl, rfl, (SqTF O41.s h77), rfl, _, rfl, _, rfl, _, _, _, _, _, _, rfl, O41.pre0, r78, f_leaves, wp_call hk (fun r80 er81 hk F82 H83 g84 => ?_) (fun n hn C H1 hC kp => hn C H1 hC (O41.kp0 kp))⟩
            have O85 := O41.call0 g84
            have S_ := g84.f
            have f_told := f_told.mono S_
            have f_leaves := f_leaves.mono S_
            have h4 := S_ _ _ h4
            have h9 := S_ _ _ h9
            have h16 := h16.mono S_
            have h19 := S_ _ _ h19
            have h37 := S_ _ _ h37
            have h44 := h44.mono S_
            have h47 := S_ _ _ h47
            have h77 := S_ _ _ h77
            have r78 := r78.mono S_
            have r79 := r79.mono S_
            refine ⟨_, rfl, ?_⟩
            refine iteB (fun q86 => ?_) (fun q86 => ?_)
            · have hk := wp_if hk q86
              obtain ⟨y87, e88, hk⟩ := wp_opt hk
              obtain ⟨p89, w90, v91, v92, e93, h94, r95, r96⟩ := R.sm_two f_told e88
              cases e93
              refine ⟨_, rfl, _, _, _, _, rfl, rfl, (SqTF O85.s h94), rfl, _, rfl, _, rfl, _, _, _, _, _, _, rfl, O85.pre0, r96, f_leaves, wp_call hk (fun r97 er98 hk F99 H100 g101 => ?_) (fun n hn C H1 hC kp => hn C H1 hC (O85.kp0 kp))⟩
              have O102 := O85.call0 g101
              have S_ := g101.f
              have f_told := f_told.mono S_
              have f_leaves := f_leaves.mono S_
              have h4 := S_ _ _ h4
              have h9 := S_ _ _ h9
              have h16 := h16.mono S_
              have h19 := S_ _ _ h19
              have h37 := S_ _ _ h37
              have h44 := h44.mono S_
              have h47 := S_ _ _ h47
              have h77 := S_ _ _ h77
              have r78 := r78.mono S_
              have r79 := r79.mono S_
              have h94 := S_ _ _ h94
              have r95 := r95.mono S_
              have r96 := r96.mono S_
              exact hk _ _  O102.g 
            · have hk := wp_el hk q86
              exact hk _ _  O85.g 
abbrev s_is_rule : Stmt := top 3
theorem sc_is_rule : FnScope ["thing", "many", "begin", "over", "join", "told", "sums", "leaves", "one"] ["thing"] (defScope s_is_rule) := ⟨rfl, rfl, rfl, by decide +kernel, rfl, by decide +kernel, by decide +kernel⟩
def m_is_rule (x_thing : (T4 (List Sm) (List Sm) (List Sm) Sm)) : M (Bool) :=
if (1 : Int) ≤ (x_thing.a.length : Int) then (
if (x_thing.a.length : Int) ≤ (3 : Int) then (
if (x_thing.b.length : Int) ≠ (x_thing.a.length : Int) then (
.ok false)
else (
if (x_thing.c.length : Int) ≠ (x_thing.a.length : Int) then (
.ok false)
else (
loopM (fun (y93 : ((List Sm) × (Tp Str))) (st104 : Unit) =>
compS (fun (y123 : Sm) (st140 : Unit) =>
m_may_stand 60 y123 y93.2 (x_thing.a.length : Int) >>= fun r146 =>
if r146 = true then (
.ok (none, ()))
else (
.ok (some y123, ()))) y93.1 () >>= fun q164 =>
if q164.1 ≠ ([] : List Sm) then (
.ok (.rt false))
else (
.ok (.nx ()))) ([(T3.mk (x_thing.a, (Tp.mk [("own" : Str)])) (x_thing.b, (Tp.mk [(T3.mk ("own" : Str) ("tie" : Str) ("more" : Str)).a, (T3.mk ("own" : Str) ("tie" : Str) ("more" : Str)).b, (T3.mk ("own" : Str) ("tie" : Str) ("more" : Str)).c])) (x_thing.c, (Tp.mk [(T3.mk ("own" : Str) ("so" : Str) ("more" : Str)).a, (T3.mk ("own" : Str) ("so" : Str) ("more" : Str)).b, (T3.mk ("own" : Str) ("so" : Str) ("more" : Str)).c]))).a, (T3.mk (x_thing.a, (Tp.mk [("own" : Str)])) (x_thing.b, (Tp.mk [(T3.mk ("own" : Str) ("tie" : Str) ("more" : Str)).a, (T3.mk ("own" : Str) ("tie" : Str) ("more" : Str)).b, (T3.mk ("own" : Str) ("tie" : Str) ("more" : Str)).c])) (x_thing.c, (Tp.mk [(T3.mk ("own" : Str) ("so" : Str) ("more" : Str)).a, (T3.mk ("own" : Str) ("so" : Str) ("more" : Str)).b, (T3.mk ("own" : Str) ("so" : Str) ("more" : Str)).c]))).b, (T3.mk (x_thing.a, (Tp.mk [("own" : Str)])) (x_thing.b, (Tp.mk [(T3.mk ("own" : Str) ("tie" : Str) ("more" : Str)).a, (T3.mk ("own" : Str) ("tie" : Str) ("more" : Str)).b, (T3.mk ("own" : Str) ("tie" : Str) ("more" : Str)).c])) (x_thing.c, (Tp.mk [(T3.mk ("own" : Str) ("so" : Str) ("more" : Str)).a, (T3.mk ("own" : Str) ("so" : Str) ("more" : Str)).b, (T3.mk ("own" : Str) ("so" : Str) ("more" : Str)).c]))).c]) () >>= fun f188 => match f188 with
| .rt z_ => .ok z_
| .nx st182 =>
m_may_stand 60 x_thing.d (Tp.mk [(("own" : Str), ("so" : Str)).1, (("own" : Str), ("so" : Str)).2]) (x_thing.a.length : Int) >>= fun r196 =>
.ok r196)))
else (
.ok false))
else (
.ok false)
def sp_is_rule (mg : Str → Option Value) : Sp := fun vs H Q E => ∃ (F : Hp) (v_thing : V) (x_thing : (T4 (List Sm) (List Sm) (List Sm) Sm)), vs = [v_thing] ∧ Pre F [] H ∧ R (a := (T4 (List Sm) (List Sm) (List Sm) Sm)) F v_thing x_thing ∧
  wp (m_is_rule x_thing) (fun r => ∀ (F' H' : Hp), Gr [] F H F' H' → Q (V.bl r) H')
  (fun n => ∀ (C : Addr) (H' : Hp), mg (Str.ofString n) = some (.ref C) → Kp [] H H' → E (.ref C) none H')
set_option maxHeartbeats 2000000 in
theorem ok_is_rule (nb : Nb mg) (C_may_stand : Ca P w K mg base "may_stand" 61 ["told", "leaves", "many"] (sp_may_stand 60 mg)) (D : Df K mg "is_rule" "is_rule" s_is_rule ["thing"]) : Ca P w K mg base "is_rule" 62 ["thing"] (sp_is_rule mg) := by
  obtain ⟨fa_may_stand, fd_may_stand, G_may_stand, M_may_stand, K_may_stand, B_may_stand⟩ := C_may_stand.ex
  refine Ca.mk' D sc_is_rule (fun vs H Q E h => ?_) (fun q_ f_ cdv A outer s H vs Q E hr h => ?_)
  · obtain ⟨F, _, _, rfl, _⟩ := h
    rfl
  · obtain ⟨F, v_thing, x_thing, rfl, P0, f_thing, hk⟩ := h
    have nd := sc_is_rule.nd
    have hu64 := hr.units
    have hu128 := hu128_of hr
    have O := P0.start
    refine ⟨_, (pss_cons (ps_asg (pv 0) (pg_tup rfl (pgs_cons (pg_name (i := 2) nd rfl (Or.inl rfl)) (pgs_cons (pg_name (i := 3) nd rfl (Or.inl rfl)) (pgs_cons (pg_name (i := 4) nd rfl (Or.inl rfl)) (pgs_cons (pg_name (i := 5) nd rfl (Or.inl rfl)) pgs_nil))))))
  (pss_cons (ps_set (i := 1) nd rfl (Or.inr rfl) (pe_callB call_lenT (by rfl) nb.b_len PySem.boot_len (pa_cons (pv 2) pa_nil)))
  (pss_cons (ps_if (PW.pt (pw_or (pt_not (pt_chain op_le op_le pe_int (pv 1) (C8.pe_gc (by rfl) nb.c_MOST))) (pw_or (pt_cmpR (op_neT Int hu64) (pe_callB call_lenT (by rfl) nb.b_len PySem.boot_len (pa_cons (pv 3) pa_nil)) (pv 1) (nomark _)) (pw_or1 (pt_cmpR (op_neT Int hu64) (pe_callB call_lenT (by rfl) nb.b_len PySem.boot_len (pa_cons (pv 4) pa_nil)) (pv 1) (nomark _)))))) (pss_one (ps_ret pe_bl)) pss_nil)
  (pss_cons (ps_for (passes_of rfl) rfl (piTupK (K := K) rfl (pe_tup (pa_cons (pe_tup (pa_cons (pv 2) (pa_cons (pe_tup (pa_cons pe_str pa_nil)) pa_nil))) (pa_cons (pe_tup (pa_cons (pv 3) (pa_cons (pe_tup (pa_cons pe_str (pa_cons pe_str (pa_cons pe_str pa_nil)))) pa_nil))) (pa_cons (pe_tup (pa_cons (pv 4) (pa_cons (pe_tup (pa_cons pe_str (pa_cons pe_str (pa_cons pe_str pa_nil)))) pa_nil))) pa_nil))))) (pg_tup rfl (pgs_cons (pg_name (i := 6) nd rfl (Or.inl rfl)) (pgs_cons (pg_name (i := 7) nd rfl (Or.inr rfl)) pgs_nil))) (pss_one (ps_if (pt_cmpR (op_neX (List Sm) hu64) (pe_lc (own := [("one", 8)]) (g := gName 8) (tt := _) rfl nd (piListK (K := K) rfl (pv 6)) (blkOk_by (own := [("one", 8)]) (N := ["thing", "many", "begin", "over", "join", "told", "sums", "leaves", "one"]) (sc := defScope s_is_rule) (by decide +kernel)) (fun _ _ _ _ _ => (pg_name (i := 8) nd rfl (Or.inl rfl))) (fun _ _ _ _ _ => (pts_one (pt_not (pt_val (pe_call G_may_stand (hr.mono (by decide)) rfl M_may_stand K_may_stand B_may_stand .nil passL (pa_cons (pv 8) (pa_cons (pv 7) (pa_cons (pv 1) pa_nil)))))))) (fun _ _ _ _ _ => (pv 8))) (pe_lst pa_nil) (nomark _)) (pss_one (ps_ret pe_bl)) pss_nil)))
  (pss_one (ps_ret (pe_call G_may_stand (hr.mono (by decide)) rfl M_may_stand K_may_stand B_may_stand .nil (passes_call (takes_of rfl rfl rfl rfl) fun _ _ _ _ h => h) (pa_cons (pv 5) (pa_cons (pe_tup (pa_cons pe_str (pa_cons pe_str pa_nil))) (pa_cons (pv 1) pa_nil)))))))))), ?_⟩
    obtain ⟨p1, v4, v5, v6, v7, e2, h3, r8, r9, r10, r11⟩ := R.t4_ f_thing
    cases e2
    obtain ⟨p12, w13, e14, h15, hl16⟩ := R.lst_ r8
    cases e14
    refine ⟨_, rfl, _, _, rfl, (SqTF O.s h3), rfl, _, _, rfl, _, _, rfl, _, _, rfl, _, _, rfl, rfl, _, rfl, _, _, _, rfl, (.inl (O.s _ _ h15)), hl16.len, _, rfl, _, _, rfl, rfl, _, rfl, ?_⟩
    refine iteD (fun q17 => ?_) (fun q17 => ?_)
    · have hk := wp_if hk q17
      refine ⟨_, _, rfl, rfl, _, rfl, ?_⟩
      refine iteN (fun q18 => ?_) (fun q18 => ?_)
      · have hk := wp_if hk q18
        obtain ⟨p19, w20, e21, h22, hl23⟩ := R.lst_ r9
        cases e21
        refine ⟨_, rfl, _, _, _, rfl, (.inl (O.s _ _ h22)), hl23.len, _, rfl, _, _, R.int, R.int, _, rfl, ?_⟩
        refine iteD (fun q24 => ?_) (fun q24 => ?_)
        · have hk := wp_if hk q24
          refine iteT ?_
          exact hk _ _  O.g 
        · have hk := wp_el hk q24
          obtain ⟨p25, w26, e27, h28, hl29⟩ := R.lst_ r10
          cases e27
          refine ⟨_, rfl, _, _, _, rfl, (.inl (O.s _ _ h28)), hl29.len, _, rfl, _, _, R.int, R.int, _, rfl, ?_⟩
          refine iteD (fun q30 => ?_) (fun q30 => ?_)
          · have hk := wp_if hk q30
            exact hk _ _  O.g 
          · have hk := wp_el hk q30
            refine ⟨_, rfl, (by show 1 ≤ sizeLine; decide), fun p31 hp32 => ?_⟩
            obtain ⟨F33, O34, S35, h36⟩ := O.putE hp32 (.tup [V.str ("own" : Str)])
            have f_thing := f_thing.mono S35
            have h3 := S35 _ _ h3
            have r8 := r8.mono S35
            have r9 := r9.mono S35
            have r10 := r10.mono S35
            have r11 := r11.mono S35
            have h15 := S35 _ _ h15
            have hl16 := hl16.mono S35
            have h22 := S35 _ _ h22
            have hl23 := hl23.mono S35
            have h28 := S35 _ _ h28
            have hl29 := hl29.mono S35
            have h37 := R.of_nam h36
            refine ⟨(by show 2 ≤ sizeLine; decide), fun p38 hp39 => ?_⟩
            have h45 := (R.tp1 h37)
            obtain ⟨F40, O41, S42, h43⟩ := O34.putE hp39 (.tup [V.ref p12, V.ref p31])
            have f_thing := f_thing.mono S42
            have h3 := S42 _ _ h3
            have r8 := r8.mono S42
            have r9 := r9.mono S42
            have r10 := r10.mono S42
            have r11 := r11.mono S42
            have h15 := S42 _ _ h15
            have hl16 := hl16.mono S42
            have h22 := S42 _ _ h22
            have hl23 := hl23.mono S42
            have h28 := S42 _ _ h28
            have hl29 := hl29.mono S42
            have h37 := h37.mono S42
            have h45 := h45.mono S42
            have h44 : R (a := ((List Sm) × (Tp Str))) F40 (.ref p38) (x_thing.a, (Tp.mk [("own" : Str)])) := R.t2 h43 r8 h45
            refine ⟨_, rfl, (by show 3 ≤ sizeLine; decide), fun p46 hp47 => ?_⟩
            obtain ⟨F48, O49, S50, h51⟩ := O41.putE hp47 (.tup [V.str ("own" : Str), V.str ("tie" : Str), V.str ("more" : Str)])
            have f_thing := f_thing.mono S50
            have h3 := S50 _ _ h3
            have r8 := r8.mono S50
            have r9 := r9.mono S50
            have r10 := r10.mono S50
            have r11 := r11.mono S50
            have h15 := S50 _ _ h15
            have hl16 := hl16.mono S50
            have h22 := S50 _ _ h22
            have hl23 := hl23.mono S50
            have h28 := S50 _ _ h28
            have hl29 := hl29.mono S50
            have h37 := h37.mono S50
            have h45 := h45.mono S50
            have h44 := h44.mono S50
            have h52 : R (a := (T3 Str Str Str)) F48 (.ref p46) (T3.mk ("own" : Str) ("tie" : Str) ("more" : Str)) := R.t3 h51 R.str R.str R.str
            refine ⟨(by show 2 ≤ sizeLine; decide), fun p53 hp54 => ?_⟩
            have h60 := (R.tp3 h52)
            obtain ⟨F55, O56, S57, h58⟩ := O49.putE hp54 (.tup [V.ref p19, V.ref p46])
            have f_thing := f_thing.mono S57
            have h3 := S57 _ _ h3
            have r8 := r8.mono S57
            have r9 := r9.mono S57
            have r10 := r10.mono S57
            have r11 := r11.mono S57
            have h15 := S57 _ _ h15
            have hl16 := hl16.mono S57
            have h22 := S57 _ _ h22
            have hl23 := hl23.mono S57
            have h28 := S57 _ _ h28
            have hl29 := hl29.mono S57
            have h37 := h37.mono S57
            have h45 := h45.mono S57
            have h44 := h44.mono S57
            have h52 := h52.mono S57
            have h60 := h60.mono S57
            have h59 : R (a := ((List Sm) × (Tp Str))) F55 (.ref p53) (x_thing.b, (Tp.mk [(T3.mk ("own" : Str) ("tie" : Str) ("more" : Str)).a, (T3.mk ("own" : Str) ("tie" : Str) ("more" : Str)).b, (T3.mk ("own" : Str) ("tie" : Str) ("more" : Str)).c])) := R.t2 h58 r9 h60
            refine ⟨_, rfl, (by show 3 ≤ sizeLine; decide), fun p61 hp62 => ?_⟩
            obtain ⟨F63, O64, S65, h66⟩ := O56.putE hp62 (.tup [V.str ("own" : Str), V.str ("so" : Str), V.str ("more" : Str)])
            have f_thing := f_thing.mono S65
            have h3 := S65 _ _ h3
            have r8 := r8.mono S65
            have r9 := r9.mono S65
            have r10 := r10.mono S65
            have r11 := r11.mono S65
            have h15 := S65 _ _ h15
            have hl16 := hl16.mono S65
            have h22 := S65 _ _ h22
            have hl23 := hl23.mono S65
            have h28 := S65 _ _ h28
            have hl29 := hl29.mono S65
            have h37 := h37.mono S65
            have h45 := h45.mono S65
            have h44 := h44.mono S65
            have h52 := h52.mono S65
            have h60 := h60.mono S65
            have h59 := h59.mono S65
            have h67 : R (a := (T3 Str Str Str)) F63 (.ref p61) (T3.mk ("own" : Str) ("so" : Str) ("more" : Str)) := R.t3 h66 R.str R.str R.str
            refine ⟨(by show 2 ≤ sizeLine; decide), fun p68 hp69 => ?_⟩
            have h75 := (R.tp3 h67)
            obtain ⟨F70, O71, S72, h73⟩ := O64.putE hp69 (.tup [V.ref p25, V.ref p61])
            have f_thing := f_thing.mono S72
            have h3 := S72 _ _ h3
            have r8 := r8.mono S72
            have r9 := r9.mono S72
            have r10 := r10.mono S72
            have r11 := r11.mono S72
            have h15 := S72 _ _ h15
            have hl16 := hl16.mono S72
            have h22 := S72 _ _ h22
            have hl23 := hl23.mono S72
            have h28 := S72 _ _ h28
            have hl29 := hl29.mono S72
            have h37 := h37.mono S72
            have h45 := h45.mono S72
            have h44 := h44.mono S72
            have h52 := h52.mono S72
            have h60 := h60.mono S72
            have h59 := h59.mono S72
            have h67 := h67.mono S72
            have h75 := h75.mono S72
            have h74 : R (a := ((List Sm) × (Tp Str))) F70 (.ref p68) (x_thing.c, (Tp.mk [(T3.mk ("own" : Str) ("so" : Str) ("more" : Str)).a, (T3.mk ("own" : Str) ("so" : Str) ("more" : Str)).b, (T3.mk ("own" : Str) ("so" : Str) ("more" : Str)).c])) := R.t2 h73 r10 h75
            refine ⟨(by show 3 ≤ sizeLine; decide), fun p76 hp77 => ?_⟩
            obtain ⟨F78, O79, S80, h81⟩ := O71.putE hp77 (.tup [V.ref p38, V.ref p53, V.ref p68])
            have f_thing := f_thing.mono S80
            have h3 := S80 _ _ h3
            have r8 := r8.mono S80
            have r9 := r9.mono S80
            have r10 := r10.mono S80
            have r11 := r11.mono S80
            have h15 := S80 _ _ h15
            have hl16 := hl16.mono S80
            have h22 := S80 _ _ h22
            have hl23 := hl23.mono S80
            have h28 := S80 _ _ h28
            have hl29 := hl29.mono S80
            have h37 := h37.mono S80
            have h45 := h45.mono S80
            have h44 := h44.mono S80
            have h52 := h52.mono S80
            have h60 := h60.mono S80
            have h59 := h59.mono S80
            have h67 := h67.mono S80
            have h75 := h75.mono S80
            have h74 := h74.mono S80
            have h82 : R (a := (T3 ((List Sm) × (Tp Str)) ((List Sm) × (Tp Str)) ((List Sm) × (Tp Str)))) F78 (.ref p76) (T3.mk (x_thing.a, (Tp.mk [("own" : Str)])) (x_thing.b, (Tp.mk [(T3.mk ("own" : Str) ("tie" : Str) ("more" : Str)).a, (T3.mk ("own" : Str) ("tie" : Str) ("more" : Str)).b, (T3.mk ("own" : Str) ("tie" : Str) ("more" : Str)).c])) (x_thing.c, (Tp.mk [(T3.mk ("own" : Str) ("so" : Str) ("more" : Str)).a, (T3.mk ("own" : Str) ("so" : Str) ("more" : Str)).b, (T3.mk ("own" : Str) ("so" : Str) ("more" : Str)).c]))) := R.t3 h81 h44 h59 h74
            obtain ⟨p83, v86, v87, v88, e84, h85, r89, r90, r91⟩ := R.t3_ h82
            cases e84
            have hl92 : RL (a := ((List Sm) × (Tp Str))) F78 [v86, v87, v88] [(T3.mk (x_thing.a, (Tp.mk [("own" : Str)])) (x_thing.b, (Tp.mk [(T3.mk ("own" : Str) ("tie" : Str) ("more" : Str)).a, (T3.mk ("own" : Str) ("tie" : Str) ("more" : Str)).b, (T3.mk ("own" : Str) ("tie" : Str) ("more" : Str)).c])) (x_thing.c, (Tp.mk [(T3.mk ("own" : Str) ("so" : Str) ("more" : Str)).a, (T3.mk ("own" : Str) ("so" : Str) ("more" : Str)).b, (T3.mk ("own" : Str) ("so" : Str) ("more" : Str)).c]))).a, (T3.mk (x_thing.a, (Tp.mk [("own" : Str)])) (x_thing.b, (Tp.mk [(T3.mk ("own" : Str) ("tie" : Str) ("more" : Str)).a, (T3.mk ("own" : Str) ("tie" : Str) ("more" : Str)).b, (T3.mk ("own" : Str) ("tie" : Str) ("more" : Str)).c])) (x_thing.c, (Tp.mk [(T3.mk ("own" : Str) ("so" : Str) ("more" : Str)).a, (T3.mk ("own" : Str) ("so" : Str) ("more" : Str)).b, (T3.mk ("own" : Str) ("so" : Str) ("more" : Str)).c]))).b, (T3.mk (x_thing.a, (Tp.mk [("own" : Str)])) (x_thing.b, (Tp.mk [(T3.mk ("own" : Str) ("tie" : Str) ("more" : Str)).a, (T3.mk ("own" : Str) ("tie" : Str) ("more" : Str)).b, (T3.mk ("own" : Str) ("tie" : Str) ("more" : Str)).c])) (x_thing.c, (Tp.mk [(T3.mk ("own" : Str) ("so" : Str) ("more" : Str)).a, (T3.mk ("own" : Str) ("so" : Str) ("more" : Str)).b, (T3.mk ("own" : Str) ("so" : Str) ("more" : Str)).c]))).c] := RL.cons r89 (RL.cons r90 (RL.cons r91 RL.nil))
            obtain ⟨L94, hL95, hLs96, hLd97⟩ := loopM_L hk
            refine ⟨_, rfl, ⟨_, (SqTF O79.s h85)⟩, ?_⟩
            refine for_tup (K := K) (xs := [v86, v87, v88]) (fun i σ H => ∃ (F_ : Hp) (st : Unit) (t_0 : Option V) (t_1 : Option V), σ = [some (V.ref p1), some (V.int (x_thing.a.length : Int)), some (V.ref p12), some (V.ref p19), some (V.ref p25), some v7, t_0, t_1, none] ∧ Same F78 F_ ∧ Ow _ F_ [] H ∧ L94 (List.drop i ([(T3.mk (x_thing.a, (Tp.mk [("own" : Str)])) (x_thing.b, (Tp.mk [(T3.mk ("own" : Str) ("tie" : Str) ("more" : Str)).a, (T3.mk ("own" : Str) ("tie" : Str) ("more" : Str)).b, (T3.mk ("own" : Str) ("tie" : Str) ("more" : Str)).c])) (x_thing.c, (Tp.mk [(T3.mk ("own" : Str) ("so" : Str) ("more" : Str)).a, (T3.mk ("own" : Str) ("so" : Str) ("more" : Str)).b, (T3.mk ("own" : Str) ("so" : Str) ("more" : Str)).c]))).a, (T3.mk (x_thing.a, (Tp.mk [("own" : Str)])) (x_thing.b, (Tp.mk [(T3.mk ("own" : Str) ("tie" : Str) ("more" : Str)).a, (T3.mk ("own" : Str) ("tie" : Str) ("more" : Str)).b, (T3.mk ("own" : Str) ("tie" : Str) ("more" : Str)).c])) (x_thing.c, (Tp.mk [(T3.mk ("own" : Str) ("so" : Str) ("more" : Str)).a, (T3.mk ("own" : Str) ("so" : Str) ("more" : Str)).b, (T3.mk ("own" : Str) ("so" : Str) ("more" : Str)).c]))).b, (T3.mk (x_thing.a, (Tp.mk [("own" : Str)])) (x_thing.b, (Tp.mk [(T3.mk ("own" : Str) ("tie" : Str) ("more" : Str)).a, (T3.mk ("own" : Str) ("tie" : Str) ("more" : Str)).b, (T3.mk ("own" : Str) ("tie" : Str) ("more" : Str)).c])) (x_thing.c, (Tp.mk [(T3.mk ("own" : Str) ("so" : Str) ("more" : Str)).a, (T3.mk ("own" : Str) ("so" : Str) ("more" : Str)).b, (T3.mk ("own" : Str) ("so" : Str) ("more" : Str)).c]))).c])) st) ⟨F78, (), none, none, rfl, Same.refl _, O79, hL95⟩ (fun i_ σ_ H_ _ hp_ => ?_) ?_ ?_
            · obtain ⟨_, _, _, _, _, hS_, hO_, _⟩ := hp_
              exact SqTF hO_.s (hS_ _ _ h85)
            · rintro i98 x99 sg100 H101 hi102 ⟨F107, st104, t105, t106, rfl, S103, O108, hL95⟩
              have f_thing := f_thing.mono S103
              have h3 := S103 _ _ h3
              have r8 := r8.mono S103
              have r9 := r9.mono S103
              have r10 := r10.mono S103
              have r11 := r11.mono S103
              have h15 := S103 _ _ h15
              have hl16 := hl16.mono S103
              have h22 := S103 _ _ h22
              have hl23 := hl23.mono S103
              have h28 := S103 _ _ h28
              have hl29 := hl29.mono S103
              have h37 := h37.mono S103
              have h45 := h45.mono S103
              have h44 := h44.mono S103
              have h52 := h52.mono S103
              have h60 := h60.mono S103
              have h59 := h59.mono S103
              have h67 := h67.mono S103
              have h75 := h75.mono S103
              have h74 := h74.mono S103
              have h82 := h82.mono S103
              have h85 := S103 _ _ h85
              have r89 := r89.mono S103
              have r90 := r90.mono S103
              have r91 := r91.mono S103
              have hl92 := hl92.mono S103
              obtain ⟨y93, e109, r110⟩ := RL.got hl92 hi102
              rw [drop_at e109] at hL95
              have hk := hLs96 _ _ _ hL95
              obtain ⟨p111, v114, v115, e112, h113, r116, r117⟩ := R.t2_ r110
              cases e112
              obtain ⟨p118, w119, e120, h121, hl122⟩ := R.lst_ r116
              cases e120
              obtain ⟨c128, L124, hL125, hLs126, hLd127⟩ := compS_L hk
              refine ⟨_, _, rfl, (SqTF O108.s h113), rfl, _, _, rfl, _, _, rfl, rfl, _, rfl, _, rfl, ⟨_, (SqLF O108.s h121)⟩, fun p129 hp130 => ?_⟩
              have z153 := O108.was hp130
              refine lc_list (K := K) (xs := w119) (fun i H => ∃ (F_ : Hp) (st : Unit) (acc : List Sm) (wa : List V), Same F107 F_ ∧ Ow _ F_ [(p129, .lst wa)] H ∧ RL F_ wa acc ∧ wa.length ≤ i ∧ L124 (List.drop i y93.1) acc st) ⟨F107, (), [], [], Same.refl _, O108.new hp130, RL.nil, Nat.zero_le _, hL125⟩ (fun i_ H_ _ hp_ => ?_) ?_ ?_
              · obtain ⟨_, _, _, _, hS_, hO_, _⟩ := hp_
                exact SqLF hO_.s (hS_ _ _ h121)
              · rintro i131 x132 H133 hi134 ⟨F139, st140, acc136, wa137, S141, O143, hl142, la138, hL125⟩
                have f_thing := f_thing.mono S141
                have h3 := S141 _ _ h3
                have r8 := r8.mono S141
                have r9 := r9.mono S141
                have r10 := r10.mono S141
                have r11 := r11.mono S141
                have h15 := S141 _ _ h15
                have hl16 := hl16.mono S141
                have h22 := S141 _ _ h22
                have hl23 := hl23.mono S141
                have h28 := S141 _ _ h28
                have hl29 := hl29.mono S141
                have h37 := h37.mono S141
                have h45 := h45.mono S141
                have h44 := h44.mono S141
                have h52 := h52.mono S141
                have h60 := h60.mono S141
                have h59 := h59.mono S141
                have h67 := h67.mono S141
                have h75 := h75.mono S141
                have h74 := h74.mono S141
                have h82 := h82.mono S141
                have h85 := S141 _ _ h85
                have r89 := r89.mono S141
                have r90 := r90.mono S141
                have r91 := r91.mono S141
                have hl92 := hl92.mono S141
                have S103 := S103.trans S141
                have r110 := r110.mono S141
                have h113 := S141 _ _ h113
                have r116 := r116.mono S141
                have r117 := r117.mono S141
                have h121 := S141 _ _ h121
                have hl122 := hl122.mono S141
                obtain ⟨y123, e144, r145⟩ := RL.got hl122 hi134
                rw [drop_at e144] at hL125
                have hk := hLs126 _ _ _ _ hL125
                refine ⟨rfl, _, rfl, _, rfl, _, rfl, _, _, _, _, _, _, rfl, O143.pre0, r145, r117, wp_call hk (fun r146 er147 hk F148 H149 g150 => ?_) (fun n hn => hn.elim)⟩
                have O151 := O143.call0 g150
                have S_ := g150.f
                have f_thing := f_thing.mono S_
                have h3 := S_ _ _ h3
                have r8 := r8.mono S_
                have r9 := r9.mono S_
                have r10 := r10.mono S_
                have r11 := r11.mono S_
                have h15 := S_ _ _ h15
                have hl16 := hl16.mono S_
                have h22 := S_ _ _ h22
                have hl23 := hl23.mono S_
                have h28 := S_ _ _ h28
                have hl29 := hl29.mono S_
                have h37 := h37.mono S_
                have h45 := h45.mono S_
                have h44 := h44.mono S_
                have h52 := h52.mono S_
                have h60 := h60.mono S_
                have h59 := h59.mono S_
                have h67 := h67.mono S_
                have h75 := h75.mono S_
                have h74 := h74.mono S_
                have h82 := h82.mono S_
                have h85 := S_ _ _ h85
                have r89 := r89.mono S_
                have r90 := r90.mono S_
                have r91 := r91.mono S_
                have hl92 := hl92.mono S_
                have S103 := S103.trans S_
                have r110 := r110.mono S_
                have h113 := S_ _ _ h113
                have r116 := r116.mono S_
                have r117 := r117.mono S_
                have h121 := S_ _ _ h121
                have hl122 := hl122.mono S_
                have S141 := S141.trans S_
                have hl142 := hl142.mono S_
                have r145 := r145.mono S_
                refine ⟨_, rfl, ?_⟩
                refine iteBN (fun q152 => ?_) (fun q152 => ?_)
                · have hk := wp_if hk q152
                  exact ⟨F148, (), acc136, wa137, S141, O151, hl142, Nat.le_succ_of_le la138, hk⟩
                · have hk := wp_el hk q152
                  refine ⟨_, rfl, _, (O151.at 0 rfl), (comp_len la138 hi134 hl122.len c128), ?_⟩
                  exact ⟨F148, (), acc136 ++ [y123], wa137 ++ [x132], S141, O151.set 0 (.lst (wa137 ++ [x132])) rfl, RL.snoc hl142 r145, by rw [List.length_append]; exact Nat.succ_le_succ la138, hk⟩
              rintro H154 ⟨F155, st156, acc157, wa158, S159, O160, hl161, la162, hL163⟩
              rw [drop_end hl122.len] at hL163
              have hk := hLd127 _ _ hL163
              have f_thing := f_thing.mono S159
              have h3 := S159 _ _ h3
              have r8 := r8.mono S159
              have r9 := r9.mono S159
              have r10 := r10.mono S159
              have r11 := r11.mono S159
              have h15 := S159 _ _ h15
              have hl16 := hl16.mono S159
              have h22 := S159 _ _ h22
              have hl23 := hl23.mono S159
              have h28 := S159 _ _ h28
              have hl29 := hl29.mono S159
              have h37 := h37.mono S159
              have h45 := h45.mono S159
              have h44 := h44.mono S159
              have h52 := h52.mono S159
              have h60 := h60.mono S159
              have h59 := h59.mono S159
              have h67 := h67.mono S159
              have h75 := h75.mono S159
              have h74 := h74.mono S159
              have h82 := h82.mono S159
              have h85 := S159 _ _ h85
              have r89 := r89.mono S159
              have r90 := r90.mono S159
              have r91 := r91.mono S159
              have hl92 := hl92.mono S159
              have S103 := S103.trans S159
              have r110 := r110.mono S159
              have h113 := S159 _ _ h113
              have r116 := r116.mono S159
              have r117 := r117.mono S159
              have h121 := S159 _ _ h121
              have hl122 := hl122.mono S159
              obtain ⟨F165, O166, S167, h168⟩ := O160.frzE 0 rfl z153
              have f_thing := f_thing.mono S167
              have h3 := S167 _ _ h3
              have r8 := r8.mono S167
              have r9 := r9.mono S167
              have r10 := r10.mono S167
              have r11 := r11.mono S167
              have h15 := S167 _ _ h15
              have hl16 := hl16.mono S167
              have h22 := S167 _ _ h22
              have hl23 := hl23.mono S167
              have h28 := S167 _ _ h28
              have hl29 := hl29.mono S167
              have h37 := h37.mono S167
              have h45 := h45.mono S167
              have h44 := h44.mono S167
              have h52 := h52.mono S167
              have h60 := h60.mono S167
              have h59 := h59.mono S167
              have h67 := h67.mono S167
              have h75 := h75.mono S167
              have h74 := h74.mono S167
              have h82 := h82.mono S167
              have h85 := S167 _ _ h85
              have r89 := r89.mono S167
              have r90 := r90.mono S167
              have r91 := r91.mono S167
              have hl92 := hl92.mono S167
              have S103 := S103.trans S167
              have r110 := r110.mono S167
              have h113 := S167 _ _ h113
              have r116 := r116.mono S167
              have r117 := r117.mono S167
              have h121 := S167 _ _ h121
              have hl122 := hl122.mono S167
              have hl161 := hl161.mono S167
              have h169 := R.lst (a := Sm) h168 hl161
              refine ⟨(by show 0 ≤ sizeLine; decide), fun p170 hp171 => ?_⟩
              have hl177 : RL (a := Sm) F165 ([]) ([] : List Sm) := RL.nil
              obtain ⟨F172, O173, S174, h175⟩ := O166.putE hp171 (.lst ([]))
              have f_thing := f_thing.mono S174
              have h3 := S174 _ _ h3
              have r8 := r8.mono S174
              have r9 := r9.mono S174
              have r10 := r10.mono S174
              have r11 := r11.mono S174
              have h15 := S174 _ _ h15
              have hl16 := hl16.mono S174
              have h22 := S174 _ _ h22
              have hl23 := hl23.mono S174
              have h28 := S174 _ _ h28
              have hl29 := hl29.mono S174
              have h37 := h37.mono S174
              have h45 := h45.mono S174
              have h44 := h44.mono S174
              have h52 := h52.mono S174
              have h60 := h60.mono S174
              have h59 := h59.mono S174
              have h67 := h67.mono S174
              have h75 := h75.mono S174
              have h74 := h74.mono S174
              have h82 := h82.mono S174
              have h85 := S174 _ _ h85
              have r89 := r89.mono S174
              have r90 := r90.mono S174
              have r91 := r91.mono S174
              have hl92 := hl92.mono S174
              have S103 := S103.trans S174
              have r110 := r110.mono S174
              have h113 := S174 _ _ h113
              have r116 := r116.mono S174
              have r117 := r117.mono S174
              have h121 := S174 _ _ h121
              have hl122 := hl122.mono S174
              have h169 := h169.mono S174
              have hl177 := hl177.mono S174
              have h176 := R.lst (a := Sm) h175 hl177
              refine ⟨_, _, (R.mono h169 O173.s), (R.mono h176 O173.s), (Nat.le_trans (Nat.min_le_right _ _) (by decide)), _, rfl, ?_⟩
              refine iteD (fun q178 => ?_) (fun q178 => ?_)
              · have hk := wp_if hk q178
                exact hk _ _  O173.g 
              · have hk := wp_el hk q178
                exact ⟨F172, (), some (V.ref p118), some v115, rfl, S103, O173, hk⟩
            rintro sg179 H180 ⟨F186, st182, t184, t185, rfl, S181, O187, hL183⟩
            rw [drop_end hl92.len] at hL183
            have hk := hLd97 _ hL183
            have f_thing := f_thing.mono S181
            have h3 := S181 _ _ h3
            have r8 := r8.mono S181
            have r9 := r9.mono S181
            have r10 := r10.mono S181
            have r11 := r11.mono S181
            have h15 := S181 _ _ h15
            have hl16 := hl16.mono S181
            have h22 := S181 _ _ h22
            have hl23 := hl23.mono S181
            have h28 := S181 _ _ h28
            have hl29 := hl29.mono S181
            have h37 := h37.mono S181
            have h45 := h45.mono S181
            have h44 := h44.mono S181
            have h52 := h52.mono S181
            have h60 := h60.mono S181
            have h59 := h59.mono S181
            have h67 := h67.mono S181
            have h75 := h75.mono S181
            have h74 := h74.mono S181
            have h82 := h82.mono S181
            have h85 := S181 _ _ h85
            have r89 := r89.mono S181
            have r90 := r90.mono S181
            have r91 := r91.mono S181
            have hl92 := hl92.mono S181
            refine ⟨_, rfl, (by show 2 ≤ sizeLine; decide), fun p189 hp190 => ?_⟩
            obtain ⟨F191, O192, S193, h194⟩ := O187.putE hp190 (.tup [V.str ("own" : Str), V.str ("so" : Str)])
            have f_thing := f_thing.mono S193
            have h3 := S193 _ _ h3
            have r8 := r8.mono S193
            have r9 := r9.mono S193
            have r10 := r10.mono S193
            have r11 := r11.mono S193
            have h15 := S193 _ _ h15
            have hl16 := hl16.mono S193
            have h22 := S193 _ _ h22
            have hl23 := hl23.mono S193
            have h28 := S193 _ _ h28
            have hl29 := hl29.mono S193
            have h37 := h37.mono S193
            have h45 := h45.mono S193
            have h44 := h44.mono S193
            have h52 := h52.mono S193
            have h60 := h60.mono S193
            have h59 := h59.mono S193
            have h67 := h67.mono S193
            have h75 := h75.mono S193
            have h74 := h74.mono S193
            have h82 := h82.mono S193
            have h85 := S193 _ _ h85
            have r89 := r89.mono S193
            have r90 := r90.mono S193
            have r91 := r91.mono S193
            have hl92 := hl92.mono S193
            have h195 : R (a := (Str × Str)) F191 (.ref p189) (("own" : Str), ("so" : Str)) := R.t2 h194 R.str R.str
            refine ⟨_, rfl, _, _, _, _, _, _, rfl, O192.pre0, r11, (R.tp2 h195), wp_call hk (fun r196 er197 hk F198 H199 g200 => ?_) (fun n hn C H1 hC kp => hn C H1 hC (O192.kp0 kp))⟩
            have O201 := O192.call0 g200
            have S_ := g200.f
            have f_thing := f_thing.mono S_
            have h3 := S_ _ _ h3
            have r8 := r8.mono S_
            have r9 := r9.mono S_
            have r10 := r10.mono S_
            have r11 := r11.mono S_
            have h15 := S_ _ _ h15
            have hl16 := hl16.mono S_
            have h22 := S_ _ _ h22
            have hl23 := hl23.mono S_
            have h28 := S_ _ _ h28
            have hl29 := hl29.mono S_
            have h37 := h37.mono S_
            have h45 := h45.mono S_
            have h44 := h44.mono S_
            have h52 := h52.mono S_
            have h60 := h60.mono S_
            have h59 := h59.mono S_
            have h67 := h67.mono S_
            have h75 := h75.mono S_
            have h74 := h74.mono S_
            have h82 := h82.mono S_
            have h85 := S_ _ _ h85
            have r89 := r89.mono S_
            have r90 := r90.mono S_
            have r91 := r91.mono S_
            have hl92 := hl92.mono S_
            have h195 := h195.mono S_
            exact hk _ _  O201.g 
      · have hk := wp_el hk q18
        refine iteT ?_
        exact hk _ _  O.g 
    · have hk := wp_el hk q17
      refine ⟨_, rfl, ?_⟩
      refine iteNF ?_
      refine iteT ?_
      exact hk _ _  O.g 
abbrev s_law_stir : Stmt := top 5
theorem sc_law_stir : FnScope ["cell", "k", "number"] ["cell", "k"] (defScope s_law_stir) := ⟨rfl, rfl, rfl, by decide +kernel, rfl, by decide +kernel, by decide +kernel⟩
def m_law_stir (x_cell : Int) (x_k : Int) : M (Int) :=
chk (0 < ((10 : Int) ^ Int.toNat (40 : Int))) >>= fun _ =>
chk (CMulW (x_cell % ((10 : Int) ^ Int.toNat (40 : Int))) (48271 : Int)) >>= fun _ =>
chk (CMulW ((3 : Int) ^ Int.toNat (60 : Int)) (x_k + (1 : Int))) >>= fun _ =>
chk (CMulW (((3 : Int) ^ Int.toNat (60 : Int)) * (x_k + (1 : Int))) (x_k + (1 : Int))) >>= fun _ =>
ret ((((x_cell % ((10 : Int) ^ Int.toNat (40 : Int))) * (48271 : Int)) + ((((3 : Int) ^ Int.toNat (60 : Int)) * (x_k + (1 : Int))) * (x_k + (1 : Int)))) + x_k) >>= fun n5 =>
chk (CMulW n5 n5) >>= fun _ =>
chk (CMulW (69621 : Int) n5) >>= fun _ =>
ret ((n5 * n5) + ((69621 : Int) * n5)) >>= fun n9 =>
chk (CMulW n9 n9) >>= fun _ =>
chk (0 < (((10 : Int) ^ Int.toNat (61 : Int)) + (7 : Int))) >>= fun _ =>
chk (CDivW ((n9 * n9) % (((10 : Int) ^ Int.toNat (61 : Int)) + (7 : Int))) (8 : Int)) >>= fun _ =>
.ok (((n9 * n9) % (((10 : Int) ^ Int.toNat (61 : Int)) + (7 : Int))) / (8 : Int))
def sp_law_stir (mg : Str → Option Value) : Sp := fun vs H Q E => ∃ (F : Hp) (x_cell : Int) (x_k : Int), vs = [V.int x_cell, V.int x_k] ∧ Pre F [] H ∧
  wp (m_law_stir x_cell x_k) (fun r => ∀ (F' H' : Hp), Gr [] F H F' H' → Q (V.int r) H')
  (fun n => ∀ (C : Addr) (H' : Hp), mg (Str.ofString n) = some (.ref C) → Kp [] H H' → E (.ref C) none H')
set_option maxHeartbeats 2000000 in
theorem ok_law_stir (nb : Nb mg) (D : Df K mg "_law_stir" "_law_stir" s_law_stir ["cell", "k"]) : Ca P w K mg base "_law_stir" 1 ["cell", "k"] (sp_law_stir mg) := by
  refine Ca.mk' D sc_law_stir (fun vs H Q E h => ?_) (fun q_ f_ cdv A outer s H vs Q E hr h => ?_)
  · obtain ⟨F, _, _, rfl, _⟩ := h
    rfl
  · obtain ⟨F, x_cell, x_k, rfl, P0, hk⟩ := h
    have nd := sc_law_stir.nd
    have hu64 := hr.units
    have hu128 := hu128_of hr
    have O := P0.start
    refine ⟨_, (pss_cons (ps_set (i := 2) nd rfl (Or.inl rfl) (pe_op op_add (pe_op op_add (pe_op op_mulW (pe_op op_mod (pv 0) (pe_op op_pow pe_int pe_int)) pe_int) (pe_op op_mulW (pe_op op_mulW (pe_op op_pow pe_int pe_int) (pe_op op_add (pv 1) pe_int)) (pe_op op_add (pv 1) pe_int))) (pv 1)))
  (pss_cons (ps_set (i := 2) nd rfl (Or.inl rfl) (pe_op op_add (pe_op op_mulW (pv 2) (pv 2)) (pe_op op_mulW pe_int (pv 2))))
  (pss_one (ps_ret (pe_op op_fdivW (pe_op op_mod (pe_op op_mulW (pv 2) (pv 2)) (pe_op op_add (pe_op op_pow pe_int pe_int) pe_int)) pe_int))))), ?_⟩
    obtain ⟨c1, hk⟩ := wp_chk hk
    obtain ⟨c2, hk⟩ := wp_chk hk
    obtain ⟨c3, hk⟩ := wp_chk hk
    obtain ⟨c4, hk⟩ := wp_chk hk
    obtain ⟨n5, hn6, hk⟩ := wp_ret hk
    subst hn6
    obtain ⟨c7, hk⟩ := wp_chk hk
    obtain ⟨c8, hk⟩ := wp_chk hk
    obtain ⟨n9, hn10, hk⟩ := wp_ret hk
    subst hn10
    obtain ⟨c11, hk⟩ := wp_chk hk
    obtain ⟨c12, hk⟩ := wp_chk hk
    obtain ⟨c13, hk⟩ := wp_chk hk
    refine ⟨_, rfl, _, _, rfl, rfl, (by decide), _, _, rfl, rfl, c1, _, _, rfl, rfl, c2, _, _, rfl, rfl, (by decide), _, rfl, _, _, rfl, rfl, _, _, rfl, rfl, c3, _, rfl, _, _, rfl, rfl, _, _, rfl, rfl, c4, _, _, rfl, rfl, _, rfl, _, _, rfl, rfl, _, rfl, _, rfl, _, _, rfl, rfl, c7, _, rfl, _, _, rfl, rfl, c8, _, _, rfl, rfl, _, rfl, _, rfl, _, _, rfl, rfl, c11, _, _, rfl, rfl, (by decide), _, _, rfl, rfl, _, _, rfl, rfl, c12, _, _, rfl, rfl, c13, ?_⟩
    exact hk _ _  O.g 
abbrev s_law_deck : Stmt := top 6
theorem sc_law_deck : FnScope ["cell"] ["cell"] (defScope s_law_deck) := ⟨rfl, rfl, rfl, by decide +kernel, rfl, by decide +kernel, by decide +kernel⟩
def m_law_deck (x_cell : Int) : M ((List Int)) :=
if ((10 : Int) ^ Int.toNat (18 : Int)) ≤ x_cell then (
.ok ([(x_cell - ((10 : Int) ^ Int.toNat (18 : Int)))]))
else (
m_law_stir x_cell (1 : Int) >>= fun r9 =>
chk (CMulW r9 ((10 : Int) ^ Int.toNat (60 : Int))) >>= fun _ =>
m_law_stir x_cell (2 : Int) >>= fun r16 =>
chk (CMulW ((r9 * ((10 : Int) ^ Int.toNat (60 : Int))) + r16) ((10 : Int) ^ Int.toNat (60 : Int))) >>= fun _ =>
m_law_stir x_cell (3 : Int) >>= fun r23 =>
.ok ([((((r9 * ((10 : Int) ^ Int.toNat (60 : Int))) + r16) * ((10 : Int) ^ Int.toNat (60 : Int))) + r23)]))
def sp_law_deck (mg : Str → Option Value) : Sp := fun vs H Q E => ∃ (F : Hp) (x_cell : Int), vs = [V.int x_cell] ∧ Pre F [] H ∧
  wp (m_law_deck x_cell) (fun r => ∀ (F' H' : Hp), Gr [] F H F' H' → ∀ (p : Addr) (w : (List V)), H p = none → F' p = none → H' p = some (.lst w) → RL (a := Int) F' w r → Q (.ref p) H')
  (fun n => ∀ (C : Addr) (H' : Hp), mg (Str.ofString n) = some (.ref C) → Kp [] H H' → E (.ref C) none H')
set_option maxHeartbeats 2000000 in
theorem ok_law_deck (nb : Nb mg) (C_law_stir : Ca P w K mg base "_law_stir" 1 ["cell", "k"] (sp_law_stir mg)) (D : Df K mg "_law_deck" "_law_deck" s_law_deck ["cell"]) : Ca P w K mg base "_law_deck" 2 ["cell"] (sp_law_deck mg) := by
  obtain ⟨fa_law_stir, fd_law_stir, G_law_stir, M_law_stir, K_law_stir, B_law_stir⟩ := C_law_stir.ex
  refine Ca.mk' D sc_law_deck (fun vs H Q E h => ?_) (fun q_ f_ cdv A outer s H vs Q E hr h => ?_)
  · obtain ⟨F, _, rfl, _⟩ := h
    rfl
  · obtain ⟨F, x_cell, rfl, P0, hk⟩ := h
    have nd := sc_law_deck.nd
    have hu64 := hr.units
    have hu128 := hu128_of hr
    have O := P0.start
    refine ⟨_, (pss_cons (ps_if (pt_cmpR op_ge (pv 0) (pe_op op_pow pe_int pe_int) (nomark _)) (pss_one (ps_ret (pe_lst (pa_cons (pe_op op_sub (pv 0) (pe_op op_pow pe_int pe_int)) pa_nil)))) pss_nil)
  (pss_one (ps_ret (pe_lst (pa_cons (pe_op op_add (pe_op op_mulW (pe_op op_add (pe_op op_mulW (pe_call G_law_stir (hr.mono (by decide)) rfl M_law_stir K_law_stir B_law_stir .nil (passes_call (takes_of rfl rfl rfl rfl) fun _ _ _ _ h => h) (pa_cons (pv 0) (pa_cons pe_int pa_nil))) (pe_op op_pow pe_int pe_int)) (pe_call G_law_stir (hr.mono (by decide)) rfl M_law_stir K_law_stir B_law_stir .nil (passes_call (takes_of rfl rfl rfl rfl) fun _ _ _ _ h => h) (pa_cons (pv 0) (pa_cons pe_int pa_nil)))) (pe_op op_pow pe_int pe_int)) (pe_call G_law_stir (hr.mono (by decide)) rfl M_law_stir K_law_stir B_law_stir .nil (passes_call (takes_of rfl rfl rfl rfl) fun _ _ _ _ h => h) (pa_cons (pv 0) (pa_cons pe_int pa_nil)))) pa_nil))))), ?_⟩
    refine ⟨_, rfl, _, _, rfl, rfl, (by decide), _, _, rfl, rfl, _, rfl, ?_⟩
    refine iteD (fun q1 => ?_) (fun q1 => ?_)
    · have hk := wp_if hk q1
      refine ⟨_, rfl, _, _, rfl, rfl, (by decide), _, _, rfl, rfl, (by show 1 ≤ sizeLine; decide), fun p3 hp4 => ?_⟩
      have hl6 : RL (a := Int) F ([V.int (x_cell - ((10 : Int) ^ Int.toNat (18 : Int)))]) ([(x_cell - ((10 : Int) ^ Int.toNat (18 : Int)))]) := RL.cons R.int RL.nil
      have z7 := O.was hp4
      have O5 := O.new (o := .lst ([V.int (x_cell - ((10 : Int) ^ Int.toNat (18 : Int)))])) hp4
      exact hk _ _  O5.g  _ _ z7 (O5.cf _ (List.mem_of_getElem? (i := 0) rfl)) (O5.at 0 rfl) hl6
    · have hk := wp_el hk q1
      refine ⟨_, rfl, _, _, _, rfl, O.pre0, wp_call hk (fun r9 er10 hk F11 H12 g13 => ?_) (fun n hn C H1 hC kp => hn C H1 hC (O.kp0 kp))⟩
      have O14 := O.call0 g13
      have S_ := g13.f
      obtain ⟨c15, hk⟩ := wp_chk hk
      refine ⟨_, _, rfl, rfl, (by decide), _, _, rfl, rfl, c15, _, rfl, _, _, _, rfl, O14.pre0, wp_call hk (fun r16 er17 hk F18 H19 g20 => ?_) (fun n hn C H1 hC kp => hn C H1 hC (O14.kp0 kp))⟩
      have O21 := O14.call0 g20
      have S_ := g20.f
      obtain ⟨c22, hk⟩ := wp_chk hk
      refine ⟨_, _, rfl, rfl, _, _, rfl, rfl, (by decide), _, _, rfl, rfl, c22, _, rfl, _, _, _, rfl, O21.pre0, wp_call hk (fun r23 er24 hk F25 H26 g27 => ?_) (fun n hn C H1 hC kp => hn C H1 hC (O21.kp0 kp))⟩
      have O28 := O21.call0 g27
      have S_ := g27.f
      refine ⟨_, _, rfl, rfl, (by show 1 ≤ sizeLine; decide), fun p29 hp30 => ?_⟩
      have hl32 : RL (a := Int) F25 ([V.int ((((r9 * ((10 : Int) ^ Int.toNat (60 : Int))) + r16) * ((10 : Int) ^ Int.toNat (60 : Int))) + r23)]) ([((((r9 * ((10 : Int) ^ Int.toNat (60 : Int))) + r16) * ((10 : Int) ^ Int.toNat (60 : Int))) + r23)]) := RL.cons R.int RL.nil
      have z33 := O28.was hp30
      have O31 := O28.new (o := .lst ([V.int ((((r9 * ((10 : Int) ^ Int.toNat (60 : Int))) + r16) * ((10 : Int) ^ Int.toNat (60 : Int))) + r23)])) hp30
      exact hk _ _  O31.g  _ _ z33 (O31.cf _ (List.mem_of_getElem? (i := 0) rfl)) (O31.at 0 rfl) hl32
abbrev s_law_take : Stmt := top 7
theorem sc_law_take : FnScope ["deck", "many", "taken"] ["deck", "many"] (defScope s_law_take) := ⟨rfl, rfl, rfl, by decide +kernel, rfl, by decide +kernel, by decide +kernel⟩
def m_law_take (x_deck : (List Int)) (x_many : Int) : M (Int × (List Int)) :=
opt (atI x_deck (0 : Int)) >>= fun y1 =>
chk (0 < x_many) >>= fun _ =>
opt (atI x_deck (0 : Int)) >>= fun y7 =>
chk (CDivW y7 x_many) >>= fun _ =>
setI x_deck (0 : Int) (y7 / x_many) >>= fun z15 =>
.ok ((y1 % x_many), z15)
def sp_law_take (mg : Str → Option Value) : Sp := fun vs H Q E => ∃ (F : Hp) (a_deck : Addr) (w_deck : (List V)) (x_deck : (List Int)) (x_many : Int), vs = [.ref a_deck, V.int x_many] ∧ Pre F [(a_deck, .lst w_deck)] H ∧ RL (a := Int) F w_deck x_deck ∧
  wp (m_law_take x_deck x_many) (fun r => ∀ (F' H' : Hp) (w0 : (List V)), Gr [a_deck] F H F' H' → H' a_deck = some (.lst w0) → RL (a := Int) F' w0 r.2 → Q (V.int r.1) H')
  (fun n => ∀ (C : Addr) (H' : Hp), mg (Str.ofString n) = some (.ref C) → Kp [a_deck] H H' → E (.ref C) none H')
set_option maxHeartbeats 2000000 in
theorem ok_law_take (nb : Nb mg) (D : Df K mg "_law_take" "_law_take" s_law_take ["deck", "many"]) : Ca P w K mg base "_law_take" 1 ["deck", "many"] (sp_law_take mg) := by
  refine Ca.mk' D sc_law_take (fun vs H Q E h => ?_) (fun q_ f_ cdv A outer s H vs Q E hr h => ?_)
  · obtain ⟨F, _, _, _, _, rfl, _⟩ := h
    rfl
  · obtain ⟨F, a_deck, w_deck, x_deck, x_many, rfl, P0, f_deck, hk⟩ := h
    have nd := sc_law_take.nd
    have hu64 := hr.units
    have hu128 := hu128_of hr
    have O := P0.start
    refine ⟨_, (pss_cons (ps_set (i := 2) nd rfl (Or.inl rfl) (pe_op op_mod (pe_ix (ixListK (K := K) rfl) (pv 0) pe_int (fun _ _ => rfl)) (pv 1)))
  (pss_cons (ps_asg (pe_op op_fdivW (pe_ix (ixListK (K := K) rfl) (pv 0) pe_int (fun _ _ => rfl)) (pv 1)) (pg_sub (pv 0) pe_int set_list))
  (pss_one (ps_ret (pv 2))))), ?_⟩
    obtain ⟨y1, e2, hk⟩ := wp_opt hk
    obtain ⟨w3, e4, r5⟩ := f_deck.atI e2
    obtain rfl := R.int_ r5
    obtain ⟨c6, hk⟩ := wp_chk hk
    obtain ⟨y7, e8, hk⟩ := wp_opt hk
    obtain ⟨w9, e10, r11⟩ := f_deck.atI e8
    obtain rfl := R.int_ r11
    obtain ⟨c12, hk⟩ := wp_chk hk
    obtain ⟨j13, e14, hk⟩ := wp_setI hk
    refine ⟨_, rfl, _, _, _, _, rfl, rfl, (SqL.of (O.at 0 rfl)), e4, _, rfl, _, _, rfl, rfl, c6, _, rfl, _, _, _, _, rfl, rfl, (SqL.of (O.at 0 rfl)), e10, _, rfl, _, _, rfl, rfl, c12, _, rfl, _, _, _, _, rfl, rfl, (O.at 0 rfl), (by rw [f_deck.len]; exact e14), ?_⟩
    have O16 := O.set 0 (.lst (w_deck.set j13 (V.int (y7 / x_many)))) rfl
    have hl17 : RL (a := Int) F (w_deck.set j13 (V.int (y7 / x_many))) (x_deck.set j13 (y7 / x_many)) := RL.set j13 f_deck R.int
    refine ⟨_, rfl, ?_⟩
    exact hk _ _ (w_deck.set j13 (V.int (y7 / x_many))) O16.g (O16.at 0 rfl) hl17
abbrev s_law_leaf : Stmt := top 8
theorem sc_law_leaf : FnScope ["deck", "leaves", "many", "way"] ["deck", "leaves", "many"] (defScope s_law_leaf) := ⟨rfl, rfl, rfl, by decide +kernel, rfl, by decide +kernel, by decide +kernel⟩
def m_law_leaf (x_deck : (List Int)) (x_leaves : (List Str)) (x_many : Int) : M (Sm × (List Int)) :=
m_law_take x_deck ((1 : Int) + (x_leaves.length : Int)) >>= fun r6 =>
if r6.1 = (0 : Int) then (
m_law_take r6.2 (19 : Int) >>= fun r16 =>
.ok ((Sm.num (("number" : Str), (r16.1 - (9 : Int))).1 (("number" : Str), (r16.1 - (9 : Int))).2), r16.2))
else (
opt (atI x_leaves (r6.1 - (1 : Int))) >>= fun y37 =>
if y37 ∈ ([(("so" : Str), ("more" : Str)).1, (("so" : Str), ("more" : Str)).2]) then (
opt (atI x_leaves (r6.1 - (1 : Int))) >>= fun y62 =>
m_law_take r6.2 x_many >>= fun r67 =>
.ok ((Sm.num (y62, r67.1).1 (y62, r67.1).2), r67.2))
else (
opt (atI x_leaves (r6.1 - (1 : Int))) >>= fun y88 =>
.ok ((Sm.nam y88), r6.2)))
def sp_law_leaf (mg : Str → Option Value) : Sp := fun vs H Q E => ∃ (F : Hp) (a_deck : Addr) (w_deck : (List V)) (x_deck : (List Int)) (v_leaves : V) (x_leaves : (List Str)) (x_many : Int), vs = [.ref a_deck, v_leaves, V.int x_many] ∧ Pre F [(a_deck, .lst w_deck)] H ∧ RL (a := Int) F w_deck x_deck ∧ R (a := (List Str)) F v_leaves x_leaves ∧
  wp (m_law_leaf x_deck x_leaves x_many) (fun r => ∀ (F' H' : Hp) (w0 : (List V)), Gr [a_deck] F H F' H' → H' a_deck = some (.lst w0) → RL (a := Int) F' w0 r.2 → ∀ v : V, R (a := Sm) F' v r.1 → Q v H')
  (fun n => ∀ (C : Addr) (H' : Hp), mg (Str.ofString n) = some (.ref C) → Kp [a_deck] H H' → E (.ref C) none H')
set_option maxHeartbeats 2000000 in
theorem ok_law_leaf (nb : Nb mg) (C_law_take : Ca P w K mg base "_law_take" 1 ["deck", "many"] (sp_law_take mg)) (D : Df K mg "_law_leaf" "_law_leaf" s_law_leaf ["deck", "leaves", "many"]) : Ca P w K mg base "_law_leaf" 2 ["deck", "leaves", "many"] (sp_law_leaf mg) := by
  obtain ⟨fa_law_take, fd_law_take, G_law_take, M_law_take, K_law_take, B_law_take⟩ := C_law_take.ex
  refine Ca.mk' D sc_law_leaf (fun vs H Q E h => ?_) (fun q_ f_ cdv A outer s H vs Q E hr h => ?_)
  · obtain ⟨F, _, _, _, _, _, _, rfl, _⟩ := h
    rfl
  · obtain ⟨F, a_deck, w_deck, x_deck, v_leaves, x_leaves, x_many, rfl, P0, f_deck, f_leaves, hk⟩ := h
    have nd := sc_law_leaf.nd
    have hu64 := hr.units
    have hu128 := hu128_of hr
    have O := P0.start
    refine ⟨_, (pss_cons (ps_set (i := 3) nd rfl (Or.inl rfl) (pe_call G_law_take (hr.mono (by decide)) rfl M_law_take K_law_take B_law_take .nil (passes_call (takes_of rfl rfl rfl rfl) fun _ _ _ _ h => h) (pa_cons (pv 0) (pa_cons (pe_op op_add pe_int (pe_callB call_lenT (by rfl) nb.b_len PySem.boot_len (pa_cons (pv 1) pa_nil))) pa_nil))))
  (pss_cons (ps_if (pt_cmpR (op_eqT Int hu64) (pv 3) pe_int (nomark _)) (pss_one (ps_ret (pe_tup (pa_cons pe_str (pa_cons (pe_op op_sub (pe_call G_law_take (hr.mono (by decide)) rfl M_law_take K_law_take B_law_take .nil (passes_call (takes_of rfl rfl rfl rfl) fun _ _ _ _ h => h) (pa_cons (pv 0) (pa_cons pe_int pa_nil))) pe_int) pa_nil))))) pss_nil)
  (pss_cons (ps_if (pt_cmpR (op_inT Str hu64) (pe_ix (ixListK (K := K) rfl) (pv 1) (pe_op op_sub (pv 3) pe_int) (fun _ _ => rfl)) (pe_tup (pa_cons pe_str (pa_cons pe_str pa_nil))) rfl) (pss_one (ps_ret (pe_tup (pa_cons (pe_ix (ixListK (K := K) rfl) (pv 1) (pe_op op_sub (pv 3) pe_int) (fun _ _ => rfl)) (pa_cons (pe_call G_law_take (hr.mono (by decide)) rfl M_law_take K_law_take B_law_take .nil (passes_call (takes_of rfl rfl rfl rfl) fun _ _ _ _ h => h) (pa_cons (pv 0) (pa_cons (pv 2) pa_nil))) pa_nil))))) pss_nil)
  (pss_one (ps_ret (pe_tup (pa_cons (pe_ix (ixListK (K := K) rfl) (pv 1) (pe_op op_sub (pv 3) pe_int) (fun _ _ => rfl)) pa_nil))))))), ?_⟩
    obtain ⟨p1, w2, e3, h4, hl5⟩ := R.lst_ f_leaves
    cases e3
    refine ⟨_, rfl, _, rfl, _, _, _, rfl, (.inl (O.s _ _ h4)), hl5.len, _, _, rfl, rfl, _, _, _, _, _, rfl, (O.pre1 0 rfl), f_deck, wp_call hk (fun r6 er7 hk F8 H9 w11 g10 h12 hl13 => ?_) (fun n hn C H1 hC kp => hn C H1 hC (O.kp1 kp 0 rfl))⟩
    have O14 := O.call1 g10 0 rfl h12
    have S_ := g10.f
    have f_leaves := f_leaves.mono S_
    have h4 := S_ _ _ h4
    have hl5 := hl5.mono S_
    refine ⟨_, rfl, _, _, R.int, R.int, _, rfl, ?_⟩
    refine iteD (fun q15 => ?_) (fun q15 => ?_)
    · have hk := wp_if hk q15
      refine ⟨_, rfl, _, _, _, _, _, rfl, (O14.pre1 0 rfl), hl13, wp_call hk (fun r16 er17 hk F18 H19 w21 g20 h22 hl23 => ?_) (fun n hn C H1 hC kp => hn C H1 hC (O14.kp1 kp 0 rfl))⟩
      have O24 := O14.call1 g20 0 rfl h22
      have S_ := g20.f
      have f_leaves := f_leaves.mono S_
      have h4 := S_ _ _ h4
      have hl5 := hl5.mono S_
      refine ⟨_, _, rfl, rfl, (by show 2 ≤ sizeLine; decide), fun p25 hp26 => ?_⟩
      obtain ⟨F27, O28, S29, h30⟩ := O24.putE hp26 (.tup [V.str ("number" : Str), V.int (r16.1 - (9 : Int))])
      have f_leaves := f_leaves.mono S29
      have h4 := S29 _ _ h4
      have hl5 := hl5.mono S29
      have hl23 := hl23.mono S29
      have h31 : R (a := (Str × Int)) F27 (.ref p25) (("number" : Str), (r16.1 - (9 : Int))) := R.t2 h30 R.str R.int
      exact hk _ _ w21 O28.g (O28.at 0 rfl) hl23 _ (R.of_num h31)
    · have hk := wp_el hk q15
      obtain ⟨p32, w33, e34, h35, hl36⟩ := R.lst_ f_leaves
      cases e34
      obtain ⟨y37, e38, hk⟩ := wp_opt hk
      obtain ⟨w39, e40, r41⟩ := hl36.atI e38
      obtain rfl := R.str_ r41
      refine ⟨_, rfl, _, rfl, _, _, rfl, rfl, _, _, _, _, rfl, rfl, (SqLF O14.s h35), e40, (by show 2 ≤ sizeLine; decide), fun p42 hp43 => ?_⟩
      obtain ⟨F44, O45, S46, h47⟩ := O14.putE hp43 (.tup [V.str ("so" : Str), V.str ("more" : Str)])
      have f_leaves := f_leaves.mono S46
      have h4 := S46 _ _ h4
      have hl5 := hl5.mono S46
      have hl13 := hl13.mono S46
      have h35 := S46 _ _ h35
      have hl36 := hl36.mono S46
      have h48 : R (a := (Str × Str)) F44 (.ref p42) (("so" : Str), ("more" : Str)) := R.t2 h47 R.str R.str
      obtain ⟨p49, v52, v53, e50, h51, r54, r55⟩ := R.t2_ h48
      cases e50
      obtain rfl := R.str_ r54
      obtain rfl := R.str_ r55
      refine ⟨_, _, _, _, R.str, rfl, (.inr (O45.s _ _ h51)), (RL.mono (RL.cons R.str (RL.cons R.str RL.nil)) O45.s), _, rfl, ?_⟩
      refine iteD (fun q56 => ?_) (fun q56 => ?_)
      · have hk := wp_if hk q56
        obtain ⟨p57, w58, e59, h60, hl61⟩ := R.lst_ f_leaves
        cases e59
        obtain ⟨y62, e63, hk⟩ := wp_opt hk
        obtain ⟨w64, e65, r66⟩ := hl61.atI e63
        obtain rfl := R.str_ r66
        refine ⟨_, rfl, _, rfl, _, _, rfl, rfl, _, _, _, _, rfl, rfl, (SqLF O45.s h60), e65, _, rfl, _, rfl, _, _, _, _, _, rfl, (O45.pre1 0 rfl), hl13, wp_call hk (fun r67 er68 hk F69 H70 w72 g71 h73 hl74 => ?_) (fun n hn C H1 hC kp => hn C H1 hC (O45.kp1 kp 0 rfl))⟩
        have O75 := O45.call1 g71 0 rfl h73
        have S_ := g71.f
        have f_leaves := f_leaves.mono S_
        have h4 := S_ _ _ h4
        have hl5 := hl5.mono S_
        have h35 := S_ _ _ h35
        have hl36 := hl36.mono S_
        have h48 := h48.mono S_
        have h51 := S_ _ _ h51
        have h60 := S_ _ _ h60
        have hl61 := hl61.mono S_
        refine ⟨(by show 2 ≤ sizeLine; decide), fun p76 hp77 => ?_⟩
        obtain ⟨F78, O79, S80, h81⟩ := O75.putE hp77 (.tup [V.str y62, V.int r67.1])
        have f_leaves := f_leaves.mono S80
        have h4 := S80 _ _ h4
        have hl5 := hl5.mono S80
        have h35 := S80 _ _ h35
        have hl36 := hl36.mono S80
        have h48 := h48.mono S80
        have h51 := S80 _ _ h51
        have h60 := S80 _ _ h60
        have hl61 := hl61.mono S80
        have hl74 := hl74.mono S80
        have h82 : R (a := (Str × Int)) F78 (.ref p76) (y62, r67.1) := R.t2 h81 R.str R.int
        exact hk _ _ w72 O79.g (O79.at 0 rfl) hl74 _ (R.of_num h82)
      · have hk := wp_el hk q56
        obtain ⟨p83, w84, e85, h86, hl87⟩ := R.lst_ f_leaves
        cases e85
        obtain ⟨y88, e89, hk⟩ := wp_opt hk
        obtain ⟨w90, e91, r92⟩ := hl87.atI e89
        obtain rfl := R.str_ r92
        refine ⟨_, rfl, _, rfl, _, _, rfl, rfl, _, _, _, _, rfl, rfl, (SqLF O45.s h86), e91, (by show 1 ≤ sizeLine; decide), fun p93 hp94 => ?_⟩
        obtain ⟨F95, O96, S97, h98⟩ := O45.putE hp94 (.tup [V.str y88])
        have f_leaves := f_leaves.mono S97
        have h4 := S97 _ _ h4
        have hl5 := hl5.mono S97
        have hl13 := hl13.mono S97
        have h35 := S97 _ _ h35
        have hl36 := hl36.mono S97
        have h48 := h48.mono S97
        have h51 := S97 _ _ h51
        have h86 := S97 _ _ h86
        have hl87 := hl87.mono S97
        have h99 := R.of_nam h98
        exact hk _ _ w11 O96.g (O96.at 0 rfl) hl13 _ h99
abbrev s_law_sum : Stmt := top 9
theorem sc_law_sum : FnScope ["deck", "leaves", "many", "deep", "times", "way", "one", "other"] ["deck", "leaves", "many", "deep", "times"] (defScope s_law_sum) := ⟨rfl, rfl, rfl, by decide +kernel, rfl, by decide +kernel, by decide +kernel⟩
def m_law_sum : Nat → (List Int) → (List Str) → Int → Int → Bool → M (Sm × (List Int))
  | 0, _, _, _, _, _ => bad
  | k_ + 1, x_deck, x_leaves, x_many, x_deep, x_times =>
    m_law_take x_deck (7 : Int) >>= fun r1 =>
    if x_deep = (0 : Int) then (
    m_law_leaf r1.2 x_leaves x_many >>= fun r11 =>
    .ok (r11.1, r11.2))
    else (
    if r1.1 < (2 : Int) then (
    m_law_leaf r1.2 x_leaves x_many >>= fun r23 =>
    .ok (r23.1, r23.2))
    else (
    if r1.1 = (6 : Int) then (
    if x_times = true then (
    m_law_leaf r1.2 (cutL x_leaves (some (-(1 : Int))) none) x_many >>= fun r49 =>
    m_law_leaf r49.2 ([] : List Str) (1 : Int) >>= fun r68 =>
    m_law_leaf r68.2 (cutL x_leaves none (some (1 : Int))) x_many >>= fun r92 =>
    m_law_take r92.2 (2 : Int) >>= fun r111 =>
    opt (atI ([r68.1, r92.1]) r111.1) >>= fun y125 =>
    .ok ((Sm.two (T3.mk ("times" : Str) y125 r49.1).a (T3.mk ("times" : Str) y125 r49.1).b (T3.mk ("times" : Str) y125 r49.1).c), r111.2))
    else (
    m_law_sum k_ r1.2 x_leaves x_many (x_deep - (1 : Int)) x_times >>= fun r137 =>
    opt (atI ([("plus" : Str), ("less" : Str), ("most" : Str), ("least" : Str), ("plus" : Str)]) (r1.1 - (2 : Int))) >>= fun y161 =>
    m_law_sum k_ r137.2 x_leaves x_many (x_deep - (1 : Int)) x_times >>= fun r166 =>
    .ok ((Sm.two (T3.mk y161 r137.1 r166.1).a (T3.mk y161 r137.1 r166.1).b (T3.mk y161 r137.1 r166.1).c), r166.2)))
    else (
    m_law_sum k_ r1.2 x_leaves x_many (x_deep - (1 : Int)) x_times >>= fun r184 =>
    opt (atI ([("plus" : Str), ("less" : Str), ("most" : Str), ("least" : Str), ("plus" : Str)]) (r1.1 - (2 : Int))) >>= fun y208 =>
    m_law_sum k_ r184.2 x_leaves x_many (x_deep - (1 : Int)) x_times >>= fun r213 =>
    .ok ((Sm.two (T3.mk y208 r184.1 r213.1).a (T3.mk y208 r184.1 r213.1).b (T3.mk y208 r184.1 r213.1).c), r213.2))))
def sp_law_sum (k_ : Nat) (mg : Str → Option Value) : Sp := fun vs H Q E => ∃ (F : Hp) (a_deck : Addr) (w_deck : (List V)) (x_deck : (List Int)) (v_leaves : V) (x_leaves : (List Str)) (x_many : Int) (x_deep : Int) (x_times : Bool), vs = [.ref a_deck, v_leaves, V.int x_many, V.int x_deep, V.bl x_times] ∧ Pre F [(a_deck, .lst w_deck)] H ∧ RL (a := Int) F w_deck x_deck ∧ R (a := (List Str)) F v_leaves x_leaves ∧
  wp (m_law_sum k_ x_deck x_leaves x_many x_deep x_times) (fun r => ∀ (F' H' : Hp) (w0 : (List V)), Gr [a_deck] F H F' H' → H' a_deck = some (.lst w0) → RL (a := Int) F' w0 r.2 → ∀ v : V, R (a := Sm) F' v r.1 → Q v H')
  (fun n => ∀ (C : Addr) (H' : Hp), mg (Str.ofString n) = some (.ref C) → Kp [a_deck] H H' → E (.ref C) none H')
set_option maxHeartbeats 2000000 in
theorem ok_law_sum (nb : Nb mg) (C_law_leaf : Ca P w K mg base "_law_leaf" 2 ["deck", "leaves", "many"] (sp_law_leaf mg)) (C_law_take : Ca P w K mg base "_law_take" 1 ["deck", "many"] (sp_law_take mg)) (D : Df K mg "_law_sum" "_law_sum" s_law_sum ["deck", "leaves", "many", "deep", "times"]) : ∀ k_ : Nat, Ca P w K mg base "_law_sum" (k_ + 3) ["deck", "leaves", "many", "deep", "times"] (sp_law_sum k_ mg) := by
  intro k_
  induction k_ with
  | zero =>
    refine Ca.mk' D sc_law_sum (fun vs H Q E h => ?_) (fun q_ f_ cdv A outer s H vs Q E hr h => ?_)
    · obtain ⟨F, _, _, _, _, _, _, _, _, rfl, _⟩ := h
      rfl
    · obtain ⟨F, _, _, _, _, _, _, _, _, rfl, _, _, _, hk⟩ := h
      exact hk.elim
  | succ k_ ih_ =>
    have C_law_sum := ih_
    obtain ⟨fa_law_leaf, fd_law_leaf, G_law_leaf, M_law_leaf, K_law_leaf, B_law_leaf⟩ := C_law_leaf.ex
    obtain ⟨fa_law_take, fd_law_take, G_law_take, M_law_take, K_law_take, B_law_take⟩ := C_law_take.ex
    obtain ⟨fa_law_sum, fd_law_sum, G_law_sum, M_law_sum, K_law_sum, B_law_sum⟩ := C_law_sum.ex
    refine Ca.mk' D sc_law_sum (fun vs H Q E h => ?_) (fun q_ f_ cdv A outer s H vs Q E hr h => ?_)
    · obtain ⟨F, _, _, _, _, _, _, _, _, rfl, _⟩ := h
      rfl
    · obtain ⟨F, a_deck, w_deck, x_deck, v_leaves, x_leaves, x_many, x_deep, x_times, rfl, P0, f_deck, f_leaves, hk⟩ := h
      have nd := sc_law_sum.nd
      have hu64 := hr.units
      have hu128 := hu128_of hr
      have O := P0.start
      refine ⟨_, (pss_cons (ps_set (i := 5) nd rfl (Or.inl rfl) (pe_call G_law_take (hr.mono (by omega)) rfl M_law_take K_law_take B_law_take .nil (passes_call (takes_of rfl rfl rfl rfl) fun _ _ _ _ h => h) (pa_cons (pv 0) (pa_cons pe_int pa_nil))))
  (pss_cons (ps_if (PW.pt (pw_or (pt_cmpR (op_eqT Int hu64) (pv 3) pe_int (nomark _)) (pw_or1 (pt_cmpR op_lt (pv 5) pe_int (nomark _))))) (pss_one (ps_ret (pe_call G_law_leaf (hr.mono (by omega)) rfl M_law_leaf K_law_leaf B_law_leaf .nil (passes_call (takes_of rfl rfl rfl rfl) fun _ _ _ _ h => h) (pa_cons (pv 0) (pa_cons (pv 1) (pa_cons (pv 2) pa_nil)))))) pss_nil)
  (pss_cons (ps_if (PW.pt (pw_and (pt_cmpR (op_eqT Int hu64) (pv 5) pe_int (nomark _)) (pw_and1 (pt_val (pv 4))))) (pss_cons (ps_set (i := 7) nd rfl (Or.inl rfl) (pe_call G_law_leaf (hr.mono (by omega)) rfl M_law_leaf K_law_leaf B_law_leaf .nil (passes_call (takes_of rfl rfl rfl rfl) fun _ _ _ _ h => h) (pa_cons (pv 0) (pa_cons (pe_slice (slListK (K := K) rfl) (pv 1) (po_some (pe_un un_neg pe_int)) po_none) (pa_cons (pv 2) pa_nil)))))
  (pss_one (ps_ret (pe_tup (pa_cons pe_str (pa_cons (pe_ix (ixListK (K := K) rfl) (pe_lst (pa_cons (pe_call G_law_leaf (hr.mono (by omega)) rfl M_law_leaf K_law_leaf B_law_leaf .nil (passes_call (takes_of rfl rfl rfl rfl) fun _ _ _ _ h => h) (pa_cons (pv 0) (pa_cons (pe_lst pa_nil) (pa_cons pe_int pa_nil)))) (pa_cons (pe_call G_law_leaf (hr.mono (by omega)) rfl M_law_leaf K_law_leaf B_law_leaf .nil (passes_call (takes_of rfl rfl rfl rfl) fun _ _ _ _ h => h) (pa_cons (pv 0) (pa_cons (pe_slice (slListK (K := K) rfl) (pv 1) po_none (po_some pe_int)) (pa_cons (pv 2) pa_nil)))) pa_nil))) (pe_call G_law_take (hr.mono (by omega)) rfl M_law_take K_law_take B_law_take .nil (passes_call (takes_of rfl rfl rfl rfl) fun _ _ _ _ h => h) (pa_cons (pv 0) (pa_cons pe_int pa_nil))) (fun _ _ => rfl)) (pa_cons (pv 7) pa_nil))))))) pss_nil)
  (pss_cons (ps_set (i := 6) nd rfl (Or.inl rfl) (pe_call G_law_sum (hr.mono (by omega)) rfl M_law_sum K_law_sum B_law_sum .nil (passes_call (takes_of rfl rfl rfl rfl) fun _ _ _ _ h => h) (pa_cons (pv 0) (pa_cons (pv 1) (pa_cons (pv 2) (pa_cons (pe_op op_sub (pv 3) pe_int) (pa_cons (pv 4) pa_nil)))))))
  (pss_one (ps_ret (pe_tup (pa_cons (pe_ix (ixListK (K := K) rfl) (pe_lst (pa_cons pe_str (pa_cons pe_str (pa_cons pe_str (pa_cons pe_str (pa_cons pe_str pa_nil)))))) (pe_op op_sub (pv 5) pe_int) (fun _ _ => rfl)) (pa_cons (pv 6) (pa_cons (pe_call G_law_sum (hr.mono (by omega)) rfl M_law_sum K_law_sum B_law_sum .nil (passes_call (takes_of rfl rfl rfl rfl) fun _ _ _ _ h => h) (pa_cons (pv 0) (pa_cons (pv 1) (pa_cons (pv 2) (pa_cons (pe_op op_sub (pv 3) pe_int) (pa_cons (pv 4) pa_nil)))))) pa_nil)))))))))), ?_⟩
      refine ⟨_, rfl, _, _, _, _, _, rfl, (O.pre1 0 rfl), f_deck, wp_call hk (fun r1 er2 hk F3 H4 w6 g5 h7 hl8 => ?_) (fun n hn C H1 hC kp => hn C H1 hC (O.kp1 kp 0 rfl))⟩
      have O9 := O.call1 g5 0 rfl h7
      have S_ := g5.f
      have f_leaves := f_leaves.mono S_
      refine ⟨_, rfl, _, _, R.int, R.int, _, rfl, ?_⟩
      refine iteD (fun q10 => ?_) (fun q10 => ?_)
      · have hk := wp_if hk q10
        refine iteT ?_
        refine ⟨_, rfl, _, rfl, _, rfl, _, _, _, _, _, _, _, rfl, (O9.pre1 0 rfl), hl8, f_leaves, wp_call hk (fun r11 er12 hk F13 H14 w16 g15 h17 hl18 v19 r20 => ?_) (fun n hn C H1 hC kp => hn C H1 hC (O9.kp1 kp 0 rfl))⟩
        have O21 := O9.call1 g15 0 rfl h17
        have S_ := g15.f
        have f_leaves := f_leaves.mono S_
        exact hk _ _ w16 O21.g (O21.at 0 rfl) hl18 _ r20
      · have hk := wp_el hk q10
        refine ⟨_, rfl, _, _, rfl, rfl, _, rfl, ?_⟩
        refine iteD (fun q22 => ?_) (fun q22 => ?_)
        · have hk := wp_if hk q22
          refine ⟨_, rfl, _, rfl, _, rfl, _, _, _, _, _, _, _, rfl, (O9.pre1 0 rfl), hl8, f_leaves, wp_call hk (fun r23 er24 hk F25 H26 w28 g27 h29 hl30 v31 r32 => ?_) (fun n hn C H1 hC kp => hn C H1 hC (O9.kp1 kp 0 rfl))⟩
          have O33 := O9.call1 g27 0 rfl h29
          have S_ := g27.f
          have f_leaves := f_leaves.mono S_
          exact hk _ _ w28 O33.g (O33.at 0 rfl) hl30 _ r32
        · have hk := wp_el hk q22
          refine ⟨_, rfl, _, _, R.int, R.int, _, rfl, ?_⟩
          refine iteD (fun q34 => ?_) (fun q34 => ?_)
          · have hk := wp_if hk q34
            refine ⟨_, rfl, _, rfl, ?_⟩
            refine iteB (fun q35 => ?_) (fun q35 => ?_)
            · have hk := wp_if hk q35
              obtain ⟨p36, w37, e38, h39, hl40⟩ := R.lst_ f_leaves
              cases e38
              refine ⟨_, rfl, _, rfl, _, rfl, _, rfl, _, _, rfl, (SqLF O9.s h39), fun p41 hp42 => ?_⟩
              have hl48 : RL (a := Str) F3 (cutV w37 (some (-(1 : Int))) none) (cutL x_leaves (some (-(1 : Int))) none) := RL.cutL hl40 (some (-(1 : Int))) none
              obtain ⟨F43, O44, S45, h46⟩ := O9.putE hp42 (.lst (cutV w37 (some (-(1 : Int))) none))
              have f_leaves := f_leaves.mono S45
              have hl8 := hl8.mono S45
              have h39 := S45 _ _ h39
              have hl40 := hl40.mono S45
              have hl48 := hl48.mono S45
              have h47 := R.lst (a := Str) h46 hl48
              refine ⟨_, rfl, _, _, _, _, _, _, _, rfl, (O44.pre1 0 rfl), hl8, h47, wp_call hk (fun r49 er50 hk F51 H52 w54 g53 h55 hl56 v57 r58 => ?_) (fun n hn C H1 hC kp => hn C H1 hC (O44.kp1 kp 0 rfl))⟩
              have O59 := O44.call1 g53 0 rfl h55
              have S_ := g53.f
              have f_leaves := f_leaves.mono S_
              have h39 := S_ _ _ h39
              have hl40 := hl40.mono S_
              have h47 := h47.mono S_
              refine ⟨_, rfl, (by show 0 ≤ sizeLine; decide), fun p60 hp61 => ?_⟩
              have hl67 : RL (a := Str) F51 ([]) ([] : List Str) := RL.nil
              obtain ⟨F62, O63, S64, h65⟩ := O59.putE hp61 (.lst ([]))
              have f_leaves := f_leaves.mono S64
              have h39 := S64 _ _ h39
              have hl40 := hl40.mono S64
              have h47 := h47.mono S64
              have hl56 := hl56.mono S64
              have r58 := r58.mono S64
              have hl67 := hl67.mono S64
              have h66 := R.lst (a := Str) h65 hl67
              refine ⟨_, _, _, _, _, _, _, rfl, (O63.pre1 0 rfl), hl56, h66, wp_call hk (fun r68 er69 hk F70 H71 w73 g72 h74 hl75 v76 r77 => ?_) (fun n hn C H1 hC kp => hn C H1 hC (O63.kp1 kp 0 rfl))⟩
              have O78 := O63.call1 g72 0 rfl h74
              have S_ := g72.f
              have f_leaves := f_leaves.mono S_
              have h39 := S_ _ _ h39
              have hl40 := hl40.mono S_
              have h47 := h47.mono S_
              have r58 := r58.mono S_
              have h66 := h66.mono S_
              obtain ⟨p79, w80, e81, h82, hl83⟩ := R.lst_ f_leaves
              cases e81
              refine ⟨_, rfl, _, rfl, _, rfl, _, _, rfl, (SqLF O78.s h82), fun p84 hp85 => ?_⟩
              have hl91 : RL (a := Str) F70 (cutV w80 none (some (1 : Int))) (cutL x_leaves none (some (1 : Int))) := RL.cutL hl83 none (some (1 : Int))
              obtain ⟨F86, O87, S88, h89⟩ := O78.putE hp85 (.lst (cutV w80 none (some (1 : Int))))
              have f_leaves := f_leaves.mono S88
              have h39 := S88 _ _ h39
              have hl40 := hl40.mono S88
              have h47 := h47.mono S88
              have r58 := r58.mono S88
              have h66 := h66.mono S88
              have hl75 := hl75.mono S88
              have r77 := r77.mono S88
              have h82 := S88 _ _ h82
              have hl83 := hl83.mono S88
              have hl91 := hl91.mono S88
              have h90 := R.lst (a := Str) h89 hl91
              refine ⟨_, rfl, _, _, _, _, _, _, _, rfl, (O87.pre1 0 rfl), hl75, h90, wp_call hk (fun r92 er93 hk F94 H95 w97 g96 h98 hl99 v100 r101 => ?_) (fun n hn C H1 hC kp => hn C H1 hC (O87.kp1 kp 0 rfl))⟩
              have O102 := O87.call1 g96 0 rfl h98
              have S_ := g96.f
              have f_leaves := f_leaves.mono S_
              have h39 := S_ _ _ h39
              have hl40 := hl40.mono S_
              have h47 := h47.mono S_
              have r58 := r58.mono S_
              have h66 := h66.mono S_
              have r77 := r77.mono S_
              have h82 := S_ _ _ h82
              have hl83 := hl83.mono S_
              have h90 := h90.mono S_
              refine ⟨(by show 2 ≤ sizeLine; decide), fun p103 hp104 => ?_⟩
              have hl110 : RL (a := Sm) F94 ([v76, v100]) ([r68.1, r92.1]) := RL.cons r77 (RL.cons r101 RL.nil)
              obtain ⟨F105, O106, S107, h108⟩ := O102.putE hp104 (.lst ([v76, v100]))
              have f_leaves := f_leaves.mono S107
              have h39 := S107 _ _ h39
              have hl40 := hl40.mono S107
              have h47 := h47.mono S107
              have r58 := r58.mono S107
              have h66 := h66.mono S107
              have r77 := r77.mono S107
              have h82 := S107 _ _ h82
              have hl83 := hl83.mono S107
              have h90 := h90.mono S107
              have hl99 := hl99.mono S107
              have r101 := r101.mono S107
              have hl110 := hl110.mono S107
              have h109 := R.lst (a := Sm) h108 hl110
              refine ⟨_, rfl, _, _, _, _, _, rfl, (O106.pre1 0 rfl), hl99, wp_call hk (fun r111 er112 hk F113 H114 w116 g115 h117 hl118 => ?_) (fun n hn C H1 hC kp => hn C H1 hC (O106.kp1 kp 0 rfl))⟩
              have O119 := O106.call1 g115 0 rfl h117
              have S_ := g115.f
              have f_leaves := f_leaves.mono S_
              have h39 := S_ _ _ h39
              have hl40 := hl40.mono S_
              have h47 := h47.mono S_
              have r58 := r58.mono S_
              have h66 := h66.mono S_
              have r77 := r77.mono S_
              have h82 := S_ _ _ h82
              have hl83 := hl83.mono S_
              have h90 := h90.mono S_
              have r101 := r101.mono S_
              have h109 := h109.mono S_
              obtain ⟨p120, w121, e122, h123, hl124⟩ := R.lst_ h109
              cases e122
              obtain ⟨y125, e126, hk⟩ := wp_opt hk
              obtain ⟨w127, e128, r129⟩ := hl124.atI e126
              refine ⟨_, _, _, _, rfl, rfl, (SqLF O119.s h123), e128, _, rfl, (by show 3 ≤ sizeLine; decide), fun p130 hp131 => ?_⟩
              obtain ⟨F132, O133, S134, h135⟩ := O119.putE hp131 (.tup [V.str ("times" : Str), w127, v57])
              have f_leaves := f_leaves.mono S134
              have h39 := S134 _ _ h39
              have hl40 := hl40.mono S134
              have h47 := h47.mono S134
              have r58 := r58.mono S134
              have h66 := h66.mono S134
              have r77 := r77.mono S134
              have h82 := S134 _ _ h82
              have hl83 := hl83.mono S134
              have h90 := h90.mono S134
              have r101 := r101.mono S134
              have h109 := h109.mono S134
              have hl118 := hl118.mono S134
              have h123 := S134 _ _ h123
              have hl124 := hl124.mono S134
              have r129 := r129.mono S134
              have h136 : R (a := (T3 Str Sm Sm)) F132 (.ref p130) (T3.mk ("times" : Str) y125 r49.1) := R.t3 h135 R.str r129 r58
              exact hk _ _ w116 O133.g (O133.at 0 rfl) hl118 _ (R.of_two h136)
            · have hk := wp_el hk q35
              refine ⟨_, rfl, _, rfl, _, rfl, _, rfl, _, _, rfl, rfl, _, rfl, _, _, _, _, _, _, _, _, _, rfl, (O9.pre1 0 rfl), hl8, f_leaves, wp_call hk (fun r137 er138 hk F139 H140 w142 g141 h143 hl144 v145 r146 => ?_) (fun n hn C H1 hC kp => hn C H1 hC (O9.kp1 kp 0 rfl))⟩
              have O147 := O9.call1 g141 0 rfl h143
              have S_ := g141.f
              have f_leaves := f_leaves.mono S_
              refine ⟨(by show 5 ≤ sizeLine; decide), fun p148 hp149 => ?_⟩
              have hl155 : RL (a := Str) F139 ([V.str ("plus" : Str), V.str ("less" : Str), V.str ("most" : Str), V.str ("least" : Str), V.str ("plus" : Str)]) ([("plus" : Str), ("less" : Str), ("most" : Str), ("least" : Str), ("plus" : Str)]) := RL.cons R.str (RL.cons R.str (RL.cons R.str (RL.cons R.str (RL.cons R.str RL.nil))))
              obtain ⟨F150, O151, S152, h153⟩ := O147.putE hp149 (.lst ([V.str ("plus" : Str), V.str ("less" : Str), V.str ("most" : Str), V.str ("least" : Str), V.str ("plus" : Str)]))
              have f_leaves := f_leaves.mono S152
              have hl144 := hl144.mono S152
              have r146 := r146.mono S152
              have hl155 := hl155.mono S152
              have h154 := R.lst (a := Str) h153 hl155
              obtain ⟨p156, w157, e158, h159, hl160⟩ := R.lst_ h154
              cases e158
              obtain ⟨y161, e162, hk⟩ := wp_opt hk
              obtain ⟨w163, e164, r165⟩ := hl160.atI e162
              obtain rfl := R.str_ r165
              refine ⟨_, rfl, _, _, rfl, rfl, _, _, _, _, rfl, rfl, (SqLF O151.s h159), e164, _, rfl, _, rfl, _, rfl, _, rfl, _, rfl, _, _, rfl, rfl, _, rfl, _, _, _, _, _, _, _, _, _, rfl, (O151.pre1 0 rfl), hl144, f_leaves, wp_call hk (fun r166 er167 hk F168 H169 w171 g170 h172 hl173 v174 r175 => ?_) (fun n hn C H1 hC kp => hn C H1 hC (O151.kp1 kp 0 rfl))⟩
              have O176 := O151.call1 g170 0 rfl h172
              have S_ := g170.f
              have f_leaves := f_leaves.mono S_
              have r146 := r146.mono S_
              have h154 := h154.mono S_
              have h159 := S_ _ _ h159
              have hl160 := hl160.mono S_
              refine ⟨(by show 3 ≤ sizeLine; decide), fun p177 hp178 => ?_⟩
              obtain ⟨F179, O180, S181, h182⟩ := O176.putE hp178 (.tup [V.str y161, v145, v174])
              have f_leaves := f_leaves.mono S181
              have r146 := r146.mono S181
              have h154 := h154.mono S181
              have h159 := S181 _ _ h159
              have hl160 := hl160.mono S181
              have hl173 := hl173.mono S181
              have r175 := r175.mono S181
              have h183 : R (a := (T3 Str Sm Sm)) F179 (.ref p177) (T3.mk y161 r137.1 r166.1) := R.t3 h182 R.str r146 r175
              exact hk _ _ w171 O180.g (O180.at 0 rfl) hl173 _ (R.of_two h183)
          · have hk := wp_el hk q34
            refine iteF ?_
            refine ⟨_, rfl, _, rfl, _, rfl, _, rfl, _, _, rfl, rfl, _, rfl, _, _, _, _, _, _, _, _, _, rfl, (O9.pre1 0 rfl), hl8, f_leaves, wp_call hk (fun r184 er185 hk F186 H187 w189 g188 h190 hl191 v192 r193 => ?_) (fun n hn C H1 hC kp => hn C H1 hC (O9.kp1 kp 0 rfl))⟩
            have O194 := O9.call1 g188 0 rfl h190
            have S_ := g188.f
            have f_leaves := f_leaves.mono S_
            refine ⟨(by show 5 ≤ sizeLine; decide), fun p195 hp196 => ?_⟩
            have hl202 : RL (a := Str) F186 ([V.str ("plus" : Str), V.str ("less" : Str), V.str ("most" : Str), V.str ("least" : Str), V.str ("plus" : Str)]) ([("plus" : Str), ("less" : Str), ("most" : Str), ("least" : Str), ("plus" : Str)]) := RL.cons R.str (RL.cons R.str (RL.cons R.str (RL.cons R.str (RL.cons R.str RL.nil))))
            obtain ⟨F197, O198, S199, h200⟩ := O194.putE hp196 (.lst ([V.str ("plus" : Str), V.str ("less" : Str), V.str ("most" : Str), V.str ("least" : Str), V.str ("plus" : Str)]))
            have f_leaves := f_leaves.mono S199
            have hl191 := hl191.mono S199
            have r193 := r193.mono S199
            have hl202 := hl202.mono S199
            have h201 := R.lst (a := Str) h200 hl202
            obtain ⟨p203, w204, e205, h206, hl207⟩ := R.lst_ h201
            cases e205
            obtain ⟨y208, e209, hk⟩ := wp_opt hk
            obtain ⟨w210, e211, r212⟩ := hl207.atI e209
            obtain rfl := R.str_ r212
            refine ⟨_, rfl, _, _, rfl, rfl, _, _, _, _, rfl, rfl, (SqLF O198.s h206), e211, _, rfl, _, rfl, _, rfl, _, rfl, _, rfl, _, _, rfl, rfl, _, rfl, _, _, _, _, _, _, _, _, _, rfl, (O198.pre1 0 rfl), hl191, f_leaves, wp_call hk (fun r213 er214 hk F215 H216 w218 g217 h219 hl220 v221 r222 => ?_) (fun n hn C H1 hC kp => hn C H1 hC (O198.kp1 kp 0 rfl))⟩
            have O223 := O198.call1 g217 0 rfl h219
            have S_ := g217.f
            have f_leaves := f_leaves.mono S_
            have r193 := r193.mono S_
            have h201 := h201.mono S_
            have h206 := S_ _ _ h206
            have hl207 := hl207.mono S_
            refine ⟨(by show 3 ≤ sizeLine; decide), fun p224 hp225 => ?_⟩
            obtain ⟨F226, O227, S228, h229⟩ := O223.putE hp225 (.tup [V.str y208, v192, v221])
            have f_leaves := f_leaves.mono S228
            have r193 := r193.mono S228
            have h201 := h201.mono S228
            have h206 := S228 _ _ h206
            have hl207 := hl207.mono S228
            have hl220 := hl220.mono S228
            have r222 := r222.mono S228
            have h230 : R (a := (T3 Str Sm Sm)) F226 (.ref p224) (T3.mk y208 r184.1 r213.1) := R.t3 h229 R.str r193 r222
            exact hk _ _ w218 O227.g (O227.at 0 rfl) hl220 _ (R.of_two h230)
abbrev s_law_rule : Stmt := top 10
theorem sc_law_rule : FnScope ["deck", "times", "many", "found", "leaves", "k"] ["deck", "times"] (defScope s_law_rule) := ⟨rfl, rfl, rfl, by decide +kernel, rfl, by decide +kernel, by decide +kernel⟩
def m_law_rule (x_deck : (List Int)) (x_times : Bool) : M ((T4 (List Sm) (List Sm) (List Sm) Sm) × (List Int)) :=
m_law_take x_deck (3 : Int) >>= fun r1 =>
loopN (fun (y53 : (List Str)) (st64 : (List (List Sm)) × (List Int)) =>
chk (okR ((1 : Int) + r1.1)) >>= fun _ =>
compS (fun (y74 : Int) (st92 : (List Int)) =>
m_law_sum 5 st92 y53 ((1 : Int) + r1.1) (2 : Int) x_times >>= fun r98 =>
.ok (some r98.1, r98.2)) (rangeL 0 ((1 : Int) + r1.1)) st64.2 >>= fun q122 =>
appL st64.1 q122.1 >>= fun _ =>
.ok ((st64.1 ++ [q122.1]), q122.2)) ([[("own" : Str)], [("more" : Str), ("own" : Str), ("tie" : Str)], [("so" : Str), ("own" : Str), ("more" : Str)]]) (([] : List (List Sm)), r1.2) >>= fun st135 =>
opt (atI st135.1 (0 : Int)) >>= fun y144 =>
opt (atI st135.1 (1 : Int)) >>= fun y149 =>
opt (atI st135.1 (2 : Int)) >>= fun y154 =>
m_law_sum 5 st135.2 ([("so" : Str), ("own" : Str)]) ((1 : Int) + r1.1) (2 : Int) x_times >>= fun r167 =>
.ok ((T4.mk y144 y149 y154 r167.1), r167.2)
def sp_law_rule (mg : Str → Option Value) : Sp := fun vs H Q E => ∃ (F : Hp) (a_deck : Addr) (w_deck : (List V)) (x_deck : (List Int)) (x_times : Bool), vs = [.ref a_deck, V.bl x_times] ∧ Pre F [(a_deck, .lst w_deck)] H ∧ RL (a := Int) F w_deck x_deck ∧
  wp (m_law_rule x_deck x_times) (fun r => ∀ (F' H' : Hp) (w0 : (List V)), Gr [a_deck] F H F' H' → H' a_deck = some (.lst w0) → RL (a := Int) F' w0 r.2 → ∀ v : V, R (a := (T4 (List Sm) (List Sm) (List Sm) Sm)) F' v r.1 → Q v H')
  (fun n => ∀ (C : Addr) (H' : Hp), mg (Str.ofString n) = some (.ref C) → Kp [a_deck] H H' → E (.ref C) none H')
set_option maxHeartbeats 2000000 in
theorem ok_law_rule (nb : Nb mg) (C_law_sum : Ca P w K mg base "_law_sum" 8 ["deck", "leaves", "many", "deep", "times"] (sp_law_sum 5 mg)) (C_law_take : Ca P w K mg base "_law_take" 1 ["deck", "many"] (sp_law_take mg)) (D : Df K mg "_law_rule" "_law_rule" s_law_rule ["deck", "times"]) : Ca P w K mg base "_law_rule" 9 ["deck", "times"] (sp_law_rule mg) := by
  obtain ⟨fa_law_sum, fd_law_sum, G_law_sum, M_law_sum, K_law_sum, B_law_sum⟩ := C_law_sum.ex
  obtain ⟨fa_law_take, fd_law_take, G_law_take, M_law_take, K_law_take, B_law_take⟩ := C_law_take.ex
  refine Ca.mk' D sc_law_rule (fun vs H Q E h => ?_) (fun q_ f_ cdv A outer s H vs Q E hr h => ?_)
  · obtain ⟨F, _, _, _, _, rfl, _⟩ := h
    rfl
  · obtain ⟨F, a_deck, w_deck, x_deck, x_times, rfl, P0, f_deck, hk⟩ := h
    have nd := sc_law_rule.nd
    have hu64 := hr.units
    have hu128 := hu128_of hr
    have O := P0.start
    refine ⟨_, (pss_cons (ps_set (i := 2) nd rfl (Or.inr rfl) (pe_op op_add pe_int (pe_call G_law_take (hr.mono (by decide)) rfl M_law_take K_law_take B_law_take .nil (passes_call (takes_of rfl rfl rfl rfl) fun _ _ _ _ h => h) (pa_cons (pv 0) (pa_cons pe_int pa_nil)))))
  (pss_cons (ps_set (i := 3) nd rfl (Or.inl rfl) (pe_lst pa_nil))
  (pss_cons (ps_for (passes_of rfl) rfl (piListK (K := K) rfl (pe_lst (pa_cons (pe_lst (pa_cons pe_str pa_nil)) (pa_cons (pe_lst (pa_cons pe_str (pa_cons pe_str (pa_cons pe_str pa_nil)))) (pa_cons (pe_lst (pa_cons pe_str (pa_cons pe_str (pa_cons pe_str pa_nil)))) pa_nil))))) (pg_name (i := 4) nd rfl (Or.inr rfl)) (pss_one (ps_expr (pe_bm PySem.F.plainAttrs_list PySem.F.slot_list_append PySem.F.type_list_append mt_append (pv 3) (pa_cons (pe_lc (own := [("k", 5)]) (g := gName 5) (tt := _) rfl nd (pi_range1 rfl nb.b_range (pa_cons (pv 2) pa_nil)) (blkOk_by (own := [("k", 5)]) (N := ["deck", "times", "many", "found", "leaves", "k"]) (sc := defScope s_law_rule) (by decide +kernel)) (fun _ _ _ _ _ => (pg_name (i := 5) nd rfl (Or.inl rfl))) (fun _ _ _ _ _ => pts_nil) (fun _ _ _ _ _ => (pe_call G_law_sum (hr.mono (by decide)) rfl M_law_sum K_law_sum B_law_sum .nil passL (pa_cons (pv 0) (pa_cons (pv 4) (pa_cons (pv 2) (pa_cons pe_int (pa_cons (pv 1) pa_nil)))))))) pa_nil)))))
  (pss_one (ps_ret (pe_tup (pa_cons (pe_ix (ixListK (K := K) rfl) (pv 3) pe_int (fun _ _ => rfl)) (pa_cons (pe_ix (ixListK (K := K) rfl) (pv 3) pe_int (fun _ _ => rfl)) (pa_cons (pe_ix (ixListK (K := K) rfl) (pv 3) pe_int (fun _ _ => rfl)) (pa_cons (pe_call G_law_sum (hr.mono (by decide)) rfl M_law_sum K_law_sum B_law_sum .nil (passes_call (takes_of rfl rfl rfl rfl) fun _ _ _ _ h => h) (pa_cons (pv 0) (pa_cons (pe_lst (pa_cons pe_str (pa_cons pe_str pa_nil))) (pa_cons (pv 2) (pa_cons pe_int (pa_cons (pv 1) pa_nil)))))) pa_nil)))))))))), ?_⟩
    refine ⟨_, rfl, _, _, _, _, _, rfl, (O.pre1 0 rfl), f_deck, wp_call hk (fun r1 er2 hk F3 H4 w6 g5 h7 hl8 => ?_) (fun n hn C H1 hC kp => hn C H1 hC (O.kp1 kp 0 rfl))⟩
    have O9 := O.call1 g5 0 rfl h7
    have S_ := g5.f
    refine ⟨_, _, rfl, rfl, (by show 0 ≤ sizeLine; decide), fun p11 hp12 => ?_⟩
    have hl14 : RL (a := (List Sm)) F3 ([]) ([] : List (List Sm)) := RL.nil
    have z15 := O9.was hp12
    have O13 := O9.new (o := .lst ([])) hp12
    refine ⟨(by show 1 ≤ sizeLine; decide), fun p16 hp17 => ?_⟩
    have hl23 : RL (a := Str) F3 ([V.str ("own" : Str)]) ([("own" : Str)]) := RL.cons R.str RL.nil
    obtain ⟨F18, O19, S20, h21⟩ := O13.putE hp17 (.lst ([V.str ("own" : Str)]))
    have hl8 := hl8.mono S20
    have hl14 := hl14.mono S20
    have hl23 := hl23.mono S20
    have h22 := R.lst (a := Str) h21 hl23
    refine ⟨(by show 3 ≤ sizeLine; decide), fun p24 hp25 => ?_⟩
    have hl31 : RL (a := Str) F18 ([V.str ("more" : Str), V.str ("own" : Str), V.str ("tie" : Str)]) ([("more" : Str), ("own" : Str), ("tie" : Str)]) := RL.cons R.str (RL.cons R.str (RL.cons R.str RL.nil))
    obtain ⟨F26, O27, S28, h29⟩ := O19.putE hp25 (.lst ([V.str ("more" : Str), V.str ("own" : Str), V.str ("tie" : Str)]))
    have hl8 := hl8.mono S28
    have hl14 := hl14.mono S28
    have h22 := h22.mono S28
    have hl31 := hl31.mono S28
    have h30 := R.lst (a := Str) h29 hl31
    refine ⟨(by show 3 ≤ sizeLine; decide), fun p32 hp33 => ?_⟩
    have hl39 : RL (a := Str) F26 ([V.str ("so" : Str), V.str ("own" : Str), V.str ("more" : Str)]) ([("so" : Str), ("own" : Str), ("more" : Str)]) := RL.cons R.str (RL.cons R.str (RL.cons R.str RL.nil))
    obtain ⟨F34, O35, S36, h37⟩ := O27.putE hp33 (.lst ([V.str ("so" : Str), V.str ("own" : Str), V.str ("more" : Str)]))
    have hl8 := hl8.mono S36
    have hl14 := hl14.mono S36
    have h22 := h22.mono S36
    have h30 := h30.mono S36
    have hl39 := hl39.mono S36
    have h38 := R.lst (a := Str) h37 hl39
    refine ⟨(by show 3 ≤ sizeLine; decide), fun p40 hp41 => ?_⟩
    have hl47 : RL (a := (List Str)) F34 ([V.ref p16, V.ref p24, V.ref p32]) ([[("own" : Str)], [("more" : Str), ("own" : Str), ("tie" : Str)], [("so" : Str), ("own" : Str), ("more" : Str)]]) := RL.cons h22 (RL.cons h30 (RL.cons h38 RL.nil))
    obtain ⟨F42, O43, S44, h45⟩ := O35.putE hp41 (.lst ([V.ref p16, V.ref p24, V.ref p32]))
    have hl8 := hl8.mono S44
    have hl14 := hl14.mono S44
    have h22 := h22.mono S44
    have h30 := h30.mono S44
    have h38 := h38.mono S44
    have hl47 := hl47.mono S44
    have h46 := R.lst (a := (List Str)) h45 hl47
    obtain ⟨p48, w49, e50, h51, hl52⟩ := R.lst_ h46
    cases e50
    obtain ⟨L54, hL55, hLs56, hLd57⟩ := loopN_L hk
    refine ⟨_, rfl, ⟨_, (SqLF O43.s h51)⟩, ?_⟩
    refine for_list (K := K) (xs := w49) (fun i σ H => ∃ (F_ : Hp) (st : (List (List Sm)) × (List Int)) (w_0 : (List V)) (w_1 : (List V)) (t_0 : Option V), σ = [some (V.ref a_deck), some (V.bl x_times), some (V.int ((1 : Int) + r1.1)), some (V.ref p11), t_0, none] ∧ Same F42 F_ ∧ Ow _ F_ [(p11, .lst w_0), (a_deck, .lst w_1)] H ∧ RL (a := (List Sm)) F_ w_0 st.1 ∧ RL (a := Int) F_ w_1 st.2 ∧ L54 (List.drop i ([[("own" : Str)], [("more" : Str), ("own" : Str), ("tie" : Str)], [("so" : Str), ("own" : Str), ("more" : Str)]])) st) ⟨F42, (([] : List (List Sm)), r1.2), [], w6, none, rfl, Same.refl _, O43, hl14, hl8, hL55⟩ (fun i_ σ_ H_ _ hp_ => ?_) ?_ ?_
    · obtain ⟨_, _, _, _, _, _, hS_, hO_, _⟩ := hp_
      exact SqLF hO_.s (hS_ _ _ h51)
    · rintro i58 x59 sg60 H61 hi62 ⟨F70, st64, w65, w66, t69, rfl, S63, O71, hl67, hl68, hL55⟩
      have h22 := h22.mono S63
      have h30 := h30.mono S63
      have h38 := h38.mono S63
      have h46 := h46.mono S63
      have h51 := S63 _ _ h51
      have hl52 := hl52.mono S63
      obtain ⟨y53, e72, r73⟩ := RL.got hl52 hi62
      rw [drop_at e72] at hL55
      have hk := hLs56 _ _ _ hL55
      obtain ⟨c75, hk⟩ := wp_chk hk
      obtain ⟨c80, L76, hL77, hLs78, hLd79⟩ := compS_L hk
      refine ⟨_, rfl, (.inl ⟨rfl, _, SqL.of (O71.at 0 rfl)⟩), _, rfl, _, rfl, c75.lo, c75.hi, fun p81 hp82 => ?_⟩
      have z109 := O71.was hp82
      refine lc_range (lo := 0) (n := (((1 : Int) + r1.1)).toNat) (fun i H => ∃ (F_ : Hp) (st : (List Int)) (acc : List Sm) (wa : List V) (w_0 : (List V)), Same F70 F_ ∧ Ow _ F_ [(p81, .lst wa), (p11, .lst w65), (a_deck, .lst w_0)] H ∧ RL F_ wa acc ∧ RL (a := Int) F_ w_0 st ∧ wa.length ≤ i ∧ L76 (List.drop i (rangeL 0 ((1 : Int) + r1.1))) acc st) ⟨F70, st64.2, [], [], w66, Same.refl _, O71.new hp82, RL.nil, hl68, Nat.zero_le _, hL77⟩ ?_ ?_
      · rintro i83 H85 hi86 ⟨F91, st92, acc88, wa89, w94, S93, O97, hl96, hl95, la90, hL77⟩
        have h22 := h22.mono S93
        have h30 := h30.mono S93
        have h38 := h38.mono S93
        have h46 := h46.mono S93
        have h51 := S93 _ _ h51
        have hl52 := hl52.mono S93
        have hl67 := hl67.mono S93
        have S63 := S63.trans S93
        have r73 := r73.mono S93
        rw [rangeL_get0 hi86] at hL77
        have hk := hLs78 _ _ _ _ hL77
        obtain ⟨y74, he_⟩ : ∃ z_, z_ = 0 + (i83 : Int) := ⟨_, rfl⟩
        try rw [← he_] at hk
        rw [← he_]
        refine ⟨rfl, ?_⟩
        refine ⟨_, rfl, _, rfl, _, rfl, _, rfl, _, _, _, _, _, _, _, _, _, rfl, (O97.pre1 2 rfl), hl95, r73, wp_call hk (fun r98 er99 hk F100 H101 w103 g102 h104 hl105 v106 r107 => ?_) (fun n hn => hn.elim)⟩
        have O108 := O97.call1 g102 2 rfl h104
        have S_ := g102.f
        have h22 := h22.mono S_
        have h30 := h30.mono S_
        have h38 := h38.mono S_
        have h46 := h46.mono S_
        have h51 := S_ _ _ h51
        have hl52 := hl52.mono S_
        have hl67 := hl67.mono S_
        have S63 := S63.trans S_
        have r73 := r73.mono S_
        have S93 := S93.trans S_
        have hl96 := hl96.mono S_
        refine ⟨_, (O108.at 0 rfl), (comp_lenR la90 hi86 (by rw [Int.sub_zero]) c80), ?_⟩
        exact ⟨F100, r98.2, acc88 ++ [r98.1], wa89 ++ [v106], w103, S93, O108.set 0 (.lst (wa89 ++ [v106])) rfl, RL.snoc hl96 r107, hl105, by rw [List.length_append]; exact Nat.succ_le_succ la90, hk⟩
      rintro H110 ⟨F111, st112, acc113, wa114, w120, S115, O116, hl117, hl121, la118, hL119⟩
      rw [rangeL_end0] at hL119
      have hk := hLd79 _ _ hL119
      have h22 := h22.mono S115
      have h30 := h30.mono S115
      have h38 := h38.mono S115
      have h46 := h46.mono S115
      have h51 := S115 _ _ h51
      have hl52 := hl52.mono S115
      have hl67 := hl67.mono S115
      have S63 := S63.trans S115
      have r73 := r73.mono S115
      obtain ⟨F123, O124, S125, h126⟩ := O116.frzE 0 rfl z109
      have h22 := h22.mono S125
      have h30 := h30.mono S125
      have h38 := h38.mono S125
      have h46 := h46.mono S125
      have h51 := S125 _ _ h51
      have hl52 := hl52.mono S125
      have hl67 := hl67.mono S125
      have S63 := S63.trans S125
      have r73 := r73.mono S125
      have hl121 := hl121.mono S125
      have hl117 := hl117.mono S125
      have h127 := R.lst (a := Sm) h126 hl117
      obtain ⟨c128, hk⟩ := wp_appL hk
      refine ⟨_, _, _, rfl, rfl, (O124.at 0 rfl), (by rw [hl67.len]; exact c128), ?_⟩
      have O130 := O124.set 0 (.lst (w65 ++ [V.ref p81])) rfl
      have hl131 : RL (a := (List Sm)) F123 (w65 ++ [V.ref p81]) (st64.1 ++ [acc113]) := RL.snoc hl67 h127
      exact ⟨F123, ((st64.1 ++ [acc113]), st112), (w65 ++ [V.ref p81]), w120, some x59, rfl, S63, O130, hl131, hl121, hk⟩
    rintro sg132 H133 ⟨F142, st135, w137, w138, t141, rfl, S134, O143, hl139, hl140, hL136⟩
    rw [drop_end hl52.len] at hL136
    have hk := hLd57 _ hL136
    have h22 := h22.mono S134
    have h30 := h30.mono S134
    have h38 := h38.mono S134
    have h46 := h46.mono S134
    have h51 := S134 _ _ h51
    have hl52 := hl52.mono S134
    obtain ⟨y144, e145, hk⟩ := wp_opt hk
    obtain ⟨w146, e147, r148⟩ := hl139.atI e145
    obtain ⟨y149, e150, hk⟩ := wp_opt hk
    obtain ⟨w151, e152, r153⟩ := hl139.atI e150
    obtain ⟨y154, e155, hk⟩ := wp_opt hk
    obtain ⟨w156, e157, r158⟩ := hl139.atI e155
    refine ⟨_, rfl, _, _, _, _, rfl, rfl, (SqL.of (O143.at 0 rfl)), e147, _, rfl, _, _, _, _, rfl, rfl, (SqL.of (O143.at 0 rfl)), e152, _, rfl, _, _, _, _, rfl, rfl, (SqL.of (O143.at 0 rfl)), e157, _, rfl, (by show 2 ≤ sizeLine; decide), fun p159 hp160 => ?_⟩
    have hl166 : RL (a := Str) F142 ([V.str ("so" : Str), V.str ("own" : Str)]) ([("so" : Str), ("own" : Str)]) := RL.cons R.str (RL.cons R.str RL.nil)
    obtain ⟨F161, O162, S163, h164⟩ := O143.putE hp160 (.lst ([V.str ("so" : Str), V.str ("own" : Str)]))
    have h22 := h22.mono S163
    have h30 := h30.mono S163
    have h38 := h38.mono S163
    have h46 := h46.mono S163
    have h51 := S163 _ _ h51
    have hl52 := hl52.mono S163
    have hl139 := hl139.mono S163
    have hl140 := hl140.mono S163
    have r148 := r148.mono S163
    have r153 := r153.mono S163
    have r158 := r158.mono S163
    have hl166 := hl166.mono S163
    have h165 := R.lst (a := Str) h164 hl166
    refine ⟨_, rfl, _, rfl, _, _, _, _, _, _, _, _, _, rfl, (O162.pre1 1 rfl), hl140, h165, wp_call hk (fun r167 er168 hk F169 H170 w172 g171 h173 hl174 v175 r176 => ?_) (fun n hn C H1 hC kp => hn C H1 hC (O162.kp1 kp 1 rfl))⟩
    have O177 := O162.call1 g171 1 rfl h173
    have S_ := g171.f
    have h22 := h22.mono S_
    have h30 := h30.mono S_
    have h38 := h38.mono S_
    have h46 := h46.mono S_
    have h51 := S_ _ _ h51
    have hl52 := hl52.mono S_
    have hl139 := hl139.mono S_
    have r148 := r148.mono S_
    have r153 := r153.mono S_
    have r158 := r158.mono S_
    have h165 := h165.mono S_
    refine ⟨(by show 4 ≤ sizeLine; decide), fun p178 hp179 => ?_⟩
    obtain ⟨F180, O181, S182, h183⟩ := O177.putE hp179 (.tup [w146, w151, w156, v175])
    have h22 := h22.mono S182
    have h30 := h30.mono S182
    have h38 := h38.mono S182
    have h46 := h46.mono S182
    have h51 := S182 _ _ h51
    have hl52 := hl52.mono S182
    have hl139 := hl139.mono S182
    have r148 := r148.mono S182
    have r153 := r153.mono S182
    have r158 := r158.mono S182
    have h165 := h165.mono S182
    have hl174 := hl174.mono S182
    have r176 := r176.mono S182
    have h184 : R (a := (T4 (List Sm) (List Sm) (List Sm) Sm)) F180 (.ref p178) (T4.mk y144 y149 y154 r167.1) := R.t4 h183 r148 r153 r158 r176
    exact hk _ _ w172 O181.g (O181.at 1 rfl) hl174 _ h184
abbrev s_law_words : Stmt := top 11
theorem sc_law_words : FnScope ["told"] ["told"] (defScope s_law_words) := ⟨rfl, rfl, rfl, by decide +kernel, rfl, by decide +kernel, by decide +kernel⟩
def m_law_words : Nat → Sm → M ((List Sm))
  | 0, _ => bad
  | k_ + 1, x_told =>
    if (Sm.word x_told) ∈ (Tp.l (Tp.mk [("number" : Str), ("own" : Str), ("tie" : Str), ("so" : Str), ("more" : Str)])) then (
    .ok ([x_told]))
    else (
    opt (Sm.two? x_told) >>= fun y25 =>
    m_law_words k_ y25.1 >>= fun r35 =>
    opt (Sm.two? x_told) >>= fun y54 =>
    m_law_words k_ y54.2 >>= fun r64 =>
    chk (r35.length + r64.length < 16777216) >>= fun _ =>
    .ok (r35 ++ r64))
def sp_law_words (k_ : Nat) (mg : Str → Option Value) : Sp := fun vs H Q E => ∃ (F : Hp) (v_told : V) (x_told : Sm), vs = [v_told] ∧ Pre F [] H ∧ R (a := Sm) F v_told x_told ∧
  wp (m_law_words k_ x_told) (fun r => ∀ (F' H' : Hp), Gr [] F H F' H' → ∀ (p : Addr) (w : (List V)), H p = none → F' p = none → H' p = some (.lst w) → RL (a := Sm) F' w r → Q (.ref p) H')
  (fun n => ∀ (C : Addr) (H' : Hp), mg (Str.ofString n) = some (.ref C) → Kp [] H H' → E (.ref C) none H')
set_option maxHeartbeats 2000000 in
theorem ok_law_words (nb : Nb mg) (D : Df K mg "_law_words" "_law_words" s_law_words ["told"]) : ∀ k_ : Nat, Ca P w K mg base "_law_words" (k_ + 1) ["told"] (sp_law_words k_ mg) := by
  intro k_
  induction k_ with
  | zero =>
    refine Ca.mk' D sc_law_words (fun vs H Q E h => ?_) (fun q_ f_ cdv A outer s H vs Q E hr h => ?_)
    · obtain ⟨F, _, _, rfl, _⟩ := h
      rfl
    · obtain ⟨F, _, _, rfl, _, _, hk⟩ := h
      exact hk.elim
  | succ k_ ih_ =>
    have C_law_words := ih_
    obtain ⟨fa_law_words, fd_law_words, G_law_words, M_law_words, K_law_words, B_law_words⟩ := C_law_words.ex
    refine Ca.mk' D sc_law_words (fun vs H Q E h => ?_) (fun q_ f_ cdv A outer s H vs Q E hr h => ?_)
    · obtain ⟨F, _, _, rfl, _⟩ := h
      rfl
    · obtain ⟨F, v_told, x_told, rfl, P0, f_told, hk⟩ := h
      have nd := sc_law_words.nd
      have hu64 := hr.units
      have hu128 := hu128_of hr
      have O := P0.start
      refine ⟨_, (pss_cons (ps_if (pt_cmpR (op_inT Str hu64) (pe_ix (ixTupK (K := K) rfl) (pv 0) pe_int (fun _ _ => rfl)) (pe_tup (pa_cons pe_str (pa_cons pe_str (pa_cons pe_str (pa_cons pe_str (pa_cons pe_str pa_nil)))))) rfl) (pss_one (ps_ret (pe_lst (pa_cons (pv 0) pa_nil)))) pss_nil)
  (pss_one (ps_ret (pe_op op_cat (pe_call G_law_words (hr.mono (by omega)) rfl M_law_words K_law_words B_law_words .nil (passes_call (takes_of rfl rfl rfl rfl) fun _ _ _ _ h => h) (pa_cons (pe_ix (ixTupK (K := K) rfl) (pv 0) pe_int (fun _ _ => rfl)) pa_nil)) (pe_call G_law_words (hr.mono (by omega)) rfl M_law_words K_law_words B_law_words .nil (passes_call (takes_of rfl rfl rfl rfl) fun _ _ _ _ h => h) (pa_cons (pe_ix (ixTupK (K := K) rfl) (pv 0) pe_int (fun _ _ => rfl)) pa_nil)))))), ?_⟩
      obtain ⟨p1, w2, e3, h4⟩ := R.sm_ f_told
      cases e3
      refine ⟨_, rfl, _, _, _, _, rfl, rfl, (SqTF O.s h4), (atI0 _ _), (by show 5 ≤ sizeLine; decide), fun p5 hp6 => ?_⟩
      obtain ⟨F7, O8, S9, h10⟩ := O.putE hp6 (.tup [V.str ("number" : Str), V.str ("own" : Str), V.str ("tie" : Str), V.str ("so" : Str), V.str ("more" : Str)])
      have f_told := f_told.mono S9
      have h4 := S9 _ _ h4
      have h11 : R (a := Tp Str) F7 (.ref p5) (Tp.mk [("number" : Str), ("own" : Str), ("tie" : Str), ("so" : Str), ("more" : Str)]) := R.tpN h10 (RL.cons R.str (RL.cons R.str (RL.cons R.str (RL.cons R.str (RL.cons R.str RL.nil)))))
      obtain ⟨p12, w13, e14, h15, hl16⟩ := R.tp_ h11
      cases e14
      refine ⟨_, _, _, _, R.str, rfl, (.inr (O8.s _ _ h15)), (RL.mono (hl16) O8.s), _, rfl, ?_⟩
      refine iteD (fun q17 => ?_) (fun q17 => ?_)
      · have hk := wp_if hk q17
        refine ⟨_, rfl, (by show 1 ≤ sizeLine; decide), fun p19 hp20 => ?_⟩
        have hl22 : RL (a := Sm) F7 ([V.ref p1]) ([x_told]) := RL.cons f_told RL.nil
        have z23 := O8.was hp20
        have O21 := O8.new (o := .lst ([V.ref p1])) hp20
        exact hk _ _  O21.g  _ _ z23 (O21.cf _ (List.mem_of_getElem? (i := 0) rfl)) (O21.at 0 rfl) hl22
      · have hk := wp_el hk q17
        obtain ⟨y25, e26, hk⟩ := wp_opt hk
        obtain ⟨p27, w28, v29, v30, e31, h32, r33, r34⟩ := R.sm_two f_told e26
        cases e31
        refine ⟨_, rfl, _, _, _, _, rfl, rfl, (SqTF O8.s h32), rfl, _, _, _, rfl, O8.pre0, r33, wp_call hk (fun r35 er36 hk F37 H38 g39 p40 w41 hn42 hf43 h44 hl45 => ?_) (fun n hn C H1 hC kp => hn C H1 hC (O8.kp0 kp))⟩
        have O46 := O8.call0 g39
        have S_ := g39.f
        have f_told := f_told.mono S_
        have h4 := S_ _ _ h4
        have h11 := h11.mono S_
        have h15 := S_ _ _ h15
        have hl16 := hl16.mono S_
        have h32 := S_ _ _ h32
        have r33 := r33.mono S_
        have r34 := r34.mono S_
        have O47 := O8.got O46 rfl hn42 hf43 h44
        have z48 := O8.was hn42
        obtain ⟨F49, O50, S51, h52⟩ := O47.frzE 0 rfl z48
        have f_told := f_told.mono S51
        have h4 := S51 _ _ h4
        have h11 := h11.mono S51
        have h15 := S51 _ _ h15
        have hl16 := hl16.mono S51
        have h32 := S51 _ _ h32
        have r33 := r33.mono S51
        have r34 := r34.mono S51
        have hl45 := hl45.mono S51
        have h53 := R.lst (a := Sm) h52 hl45
        obtain ⟨y54, e55, hk⟩ := wp_opt hk
        obtain ⟨p56, w57, v58, v59, e60, h61, r62, r63⟩ := R.sm_two f_told e55
        cases e60
        refine ⟨_, rfl, _, _, _, _, rfl, rfl, (SqTF O50.s h61), rfl, _, _, _, rfl, O50.pre0, r63, wp_call hk (fun r64 er65 hk F66 H67 g68 p69 w70 hn71 hf72 h73 hl74 => ?_) (fun n hn C H1 hC kp => hn C H1 hC (O50.kp0 kp))⟩
        have O75 := O50.call0 g68
        have S_ := g68.f
        have f_told := f_told.mono S_
        have h4 := S_ _ _ h4
        have h11 := h11.mono S_
        have h15 := S_ _ _ h15
        have hl16 := hl16.mono S_
        have h32 := S_ _ _ h32
        have r33 := r33.mono S_
        have r34 := r34.mono S_
        have h53 := h53.mono S_
        have h61 := S_ _ _ h61
        have r62 := r62.mono S_
        have r63 := r63.mono S_
        have O76 := O50.got O75 rfl hn71 hf72 h73
        have z77 := O50.was hn71
        obtain ⟨F78, O79, S80, h81⟩ := O76.frzE 0 rfl z77
        have f_told := f_told.mono S80
        have h4 := S80 _ _ h4
        have h11 := h11.mono S80
        have h15 := S80 _ _ h15
        have hl16 := hl16.mono S80
        have h32 := S80 _ _ h32
        have r33 := r33.mono S80
        have r34 := r34.mono S80
        have h53 := h53.mono S80
        have h61 := S80 _ _ h61
        have r62 := r62.mono S80
        have r63 := r63.mono S80
        have hl74 := hl74.mono S80
        have h82 := R.lst (a := Sm) h81 hl74
        obtain ⟨p83, w84, e85, h86, hl87⟩ := R.lst_ h53
        cases e85
        obtain ⟨p88, w89, e90, h91, hl92⟩ := R.lst_ h82
        cases e90
        obtain ⟨c93, hk⟩ := wp_chk hk
        refine ⟨_, _, _, _, rfl, rfl, (O79.s _ _ h86), (O79.s _ _ h91), (by rw [hl87.len, hl92.len]; exact le_line c93), fun p94 hp95 => ?_⟩
        have hl97 : RL (a := Sm) F78 (w84 ++ w89) (r35 ++ r64) := RL.app hl87 hl92
        have z98 := O79.was hp95
        have O96 := O79.new (o := .lst (w84 ++ w89)) hp95
        exact hk _ _  O96.g  _ _ z98 (O96.cf _ (List.mem_of_getElem? (i := 0) rfl)) (O96.at 0 rfl) hl97
abbrev s_law_is_good : Stmt := top 12
theorem sc_law_is_good : FnScope ["sums", "may", "many", "sum_told", "word"] ["sums", "may", "many"] (defScope s_law_is_good) := ⟨rfl, rfl, rfl, by decide +kernel, rfl, by decide +kernel, by decide +kernel⟩
def m_law_is_good (x_sums : (List Sm)) (x_may : (List Str)) (x_many : Int) : M (Bool) :=
loopM (fun (y6 : Sm) (st17 : Unit) =>
m_law_words 12 y6 >>= fun r24 =>
loopM (fun (y48 : Sm) (st59 : Unit) =>
if (Sm.word y48) ≠ ("number" : Str) then (
if (Sm.word y48) ∉ x_may then (
.ok (.rt (.rt false)))
else (
if (Sm.word y48) ∈ ([(("so" : Str), ("more" : Str)).1, (("so" : Str), ("more" : Str)).2]) then (
opt (Sm.int? y48) >>= fun y99 =>
if y99 < (0 : Int) then (
.ok (.rt (.rt false)))
else (
opt (Sm.int? y48) >>= fun y106 =>
if x_many ≤ y106 then (
.ok (.rt (.rt false)))
else (
.ok (.nx ()))))
else (
.ok (.nx ()))))
else (
if (Sm.word y48) ∈ ([(("so" : Str), ("more" : Str)).1, (("so" : Str), ("more" : Str)).2]) then (
opt (Sm.int? y48) >>= fun y132 =>
if y132 < (0 : Int) then (
.ok (.rt (.rt false)))
else (
opt (Sm.int? y48) >>= fun y139 =>
if x_many ≤ y139 then (
.ok (.rt (.rt false)))
else (
.ok (.nx ()))))
else (
.ok (.nx ())))) r24 () >>= fun f154 => match f154 with
| .rt z_ => .ok z_
| .nx st149 =>
.ok (.nx ())) x_sums () >>= fun f164 => match f164 with
| .rt z_ => .ok z_
| .nx st158 =>
.ok true
def sp_law_is_good (mg : Str → Option Value) : Sp := fun vs H Q E => ∃ (F : Hp) (v_sums : V) (x_sums : (List Sm)) (v_may : V) (x_may : (List Str)) (x_many : Int), vs = [v_sums, v_may, V.int x_many] ∧ Pre F [] H ∧ R (a := (List Sm)) F v_sums x_sums ∧ R (a := (List Str)) F v_may x_may ∧
  wp (m_law_is_good x_sums x_may x_many) (fun r => ∀ (F' H' : Hp), Gr [] F H F' H' → Q (V.bl r) H')
  (fun n => ∀ (C : Addr) (H' : Hp), mg (Str.ofString n) = some (.ref C) → Kp [] H H' → E (.ref C) none H')
set_option maxHeartbeats 2000000 in
theorem ok_law_is_good (nb : Nb mg) (C_law_words : Ca P w K mg base "_law_words" 13 ["told"] (sp_law_words 12 mg)) (D : Df K mg "_law_is_good" "_law_is_good" s_law_is_good ["sums", "may", "many"]) : Ca P w K mg base "_law_is_good" 14 ["sums", "may", "many"] (sp_law_is_good mg) := by
  obtain ⟨fa_law_words, fd_law_words, G_law_words, M_law_words, K_law_words, B_law_words⟩ := C_law_words.ex
  refine Ca.mk' D sc_law_is_good (fun vs H Q E h => ?_) (fun q_ f_ cdv A outer s H vs Q E hr h => ?_)
  · obtain ⟨F, _, _, _, _, _, rfl, _⟩ := h
    rfl
  · obtain ⟨F, v_sums, x_sums, v_may, x_may, x_many, rfl, P0, f_sums, f_may, hk⟩ := h
    have nd := sc_law_is_good.nd
    have hu64 := hr.units
    have hu128 := hu128_of hr
    have O := P0.start
    refine ⟨_, (pss_cons (ps_for (passes_of rfl) rfl (piListK (K := K) rfl (pv 0)) (pg_name (i := 3) nd rfl (Or.inl rfl)) (pss_one (ps_for (passes_of rfl) rfl (piListK (K := K) rfl (pe_call G_law_words (hr.mono (by decide)) rfl M_law_words K_law_words B_law_words .nil (passes_call (takes_of rfl rfl rfl rfl) fun _ _ _ _ h => h) (pa_cons (pv 3) pa_nil))) (pg_name (i := 4) nd rfl (Or.inl rfl)) (pss_cons (ps_if (PW.pt (pw_and (pt_cmpR (op_neT Str hu64) (pe_ix (ixTupK (K := K) rfl) (pv 4) pe_int (fun _ _ => rfl)) pe_str (nomark _)) (pw_and1 (pt_cmpR (op_ninT Str hu64) (pe_ix (ixTupK (K := K) rfl) (pv 4) pe_int (fun _ _ => rfl)) (pv 1) rfl)))) (pss_one (ps_ret pe_bl)) pss_nil)
  (pss_one (ps_if (PW.pt (pw_and (pt_cmpR (op_inT Str hu64) (pe_ix (ixTupK (K := K) rfl) (pv 4) pe_int (fun _ _ => rfl)) (pe_tup (pa_cons pe_str (pa_cons pe_str pa_nil))) rfl) (pw_and1 (PW.pt (pw_or (pt_cmpR op_lt (pe_ix (ixTupK (K := K) rfl) (pv 4) pe_int (fun _ _ => rfl)) pe_int (nomark _)) (pw_or1 (pt_cmpR op_ge (pe_ix (ixTupK (K := K) rfl) (pv 4) pe_int (fun _ _ => rfl)) (pv 2) (nomark _)))))))) (pss_one (ps_ret pe_bl)) pss_nil))))))
  (pss_one (ps_ret pe_bl))), ?_⟩
    obtain ⟨p1, w2, e3, h4, hl5⟩ := R.lst_ f_sums
    cases e3
    obtain ⟨L7, hL8, hLs9, hLd10⟩ := loopM_L hk
    refine ⟨_, rfl, _, rfl, ⟨_, (SqLF O.s h4)⟩, ?_⟩
    refine for_list (K := K) (xs := w2) (fun i σ H => ∃ (F_ : Hp) (st : Unit) (t_0 : Option V) (t_1 : Option V), σ = [some (V.ref p1), some v_may, some (V.int x_many), t_0, t_1] ∧ Same F F_ ∧ Ow _ F_ [] H ∧ L7 (List.drop i x_sums) st) ⟨F, (), none, none, rfl, Same.refl _, O, hL8⟩ (fun i_ σ_ H_ _ hp_ => ?_) ?_ ?_
    · obtain ⟨_, _, _, _, _, hS_, hO_, _⟩ := hp_
      exact SqLF hO_.s (hS_ _ _ h4)
    · rintro i11 x12 sg13 H14 hi15 ⟨F20, st17, t18, t19, rfl, S16, O21, hL8⟩
      have f_sums := f_sums.mono S16
      have f_may := f_may.mono S16
      have h4 := S16 _ _ h4
      have hl5 := hl5.mono S16
      obtain ⟨y6, e22, r23⟩ := RL.got hl5 hi15
      rw [drop_at e22] at hL8
      have hk := hLs9 _ _ _ hL8
      refine ⟨_, rfl, _, _, _, rfl, O21.pre0, r23, wp_call hk (fun r24 er25 hk F26 H27 g28 p29 w30 hn31 hf32 h33 hl34 => ?_) (fun n hn C H1 hC kp => hn C H1 hC (O21.kp0 kp))⟩
      have O35 := O21.call0 g28
      have S_ := g28.f
      have f_sums := f_sums.mono S_
      have f_may := f_may.mono S_
      have h4 := S_ _ _ h4
      have hl5 := hl5.mono S_
      have S16 := S16.trans S_
      have r23 := r23.mono S_
      have O36 := O21.got O35 rfl hn31 hf32 h33
      have z37 := O21.was hn31
      obtain ⟨F38, O39, S40, h41⟩ := O36.frzE 0 rfl z37
      have f_sums := f_sums.mono S40
      have f_may := f_may.mono S40
      have h4 := S40 _ _ h4
      have hl5 := hl5.mono S40
      have S16 := S16.trans S40
      have r23 := r23.mono S40
      have hl34 := hl34.mono S40
      have h42 := R.lst (a := Sm) h41 hl34
      obtain ⟨p43, w44, e45, h46, hl47⟩ := R.lst_ h42
      cases e45
      obtain ⟨L49, hL50, hLs51, hLd52⟩ := loopM_L hk
      refine ⟨_, rfl, ⟨_, (SqLF O39.s h46)⟩, ?_⟩
      refine for_list (K := K) (xs := w44) (fun i σ H => ∃ (F_ : Hp) (st : Unit) (t_0 : Option V), σ = [some (V.ref p1), some v_may, some (V.int x_many), some x12, t_0] ∧ Same F38 F_ ∧ Ow _ F_ [] H ∧ L49 (List.drop i r24) st) ⟨F38, (), t19, rfl, Same.refl _, O39, hL50⟩ (fun i_ σ_ H_ _ hp_ => ?_) ?_ ?_
      · obtain ⟨_, _, _, _, hS_, hO_, _⟩ := hp_
        exact SqLF hO_.s (hS_ _ _ h46)
      · rintro i53 x54 sg55 H56 hi57 ⟨F61, st59, t60, rfl, S58, O62, hL50⟩
        have f_sums := f_sums.mono S58
        have f_may := f_may.mono S58
        have h4 := S58 _ _ h4
        have hl5 := hl5.mono S58
        have S16 := S16.trans S58
        have r23 := r23.mono S58
        have h42 := h42.mono S58
        have h46 := S58 _ _ h46
        have hl47 := hl47.mono S58
        obtain ⟨y48, e63, r64⟩ := RL.got hl47 hi57
        rw [drop_at e63] at hL50
        have hk := hLs51 _ _ _ hL50
        obtain ⟨p65, w66, e67, h68⟩ := R.sm_ r64
        cases e67
        refine ⟨_, rfl, _, _, _, _, rfl, rfl, (SqTF O62.s h68), (atI0 _ _), _, _, R.str, R.str, _, rfl, ?_⟩
        refine iteD (fun q69 => ?_) (fun q69 => ?_)
        · have hk := wp_if hk q69
          obtain ⟨p70, w71, e72, h73⟩ := R.sm_ r64
          cases e72
          obtain ⟨p74, w75, e76, h77, hl78⟩ := R.lst_ f_may
          cases e76
          refine ⟨_, rfl, _, _, _, _, rfl, rfl, (SqTF O62.s h73), (atI0 _ _), _, rfl, _, _, _, _, R.str, rfl, (.inl (O62.s _ _ h77)), (RL.mono (hl78) O62.s), _, rfl, ?_⟩
          refine iteD (fun q79 => ?_) (fun q79 => ?_)
          · have hk := wp_if hk q79
            exact hk _ _  O62.g 
          · have hk := wp_el hk q79
            obtain ⟨p80, w81, e82, h83⟩ := R.sm_ r64
            cases e82
            refine ⟨_, rfl, _, _, _, _, rfl, rfl, (SqTF O62.s h83), (atI0 _ _), (by show 2 ≤ sizeLine; decide), fun p84 hp85 => ?_⟩
            obtain ⟨F86, O87, S88, h89⟩ := O62.putE hp85 (.tup [V.str ("so" : Str), V.str ("more" : Str)])
            have f_sums := f_sums.mono S88
            have f_may := f_may.mono S88
            have h4 := S88 _ _ h4
            have hl5 := hl5.mono S88
            have S16 := S16.trans S88
            have r23 := r23.mono S88
            have h42 := h42.mono S88
            have h46 := S88 _ _ h46
            have hl47 := hl47.mono S88
            have S58 := S58.trans S88
            have r64 := r64.mono S88
            have h68 := S88 _ _ h68
            have h73 := S88 _ _ h73
            have h77 := S88 _ _ h77
            have hl78 := hl78.mono S88
            have h83 := S88 _ _ h83
            have h90 : R (a := (Str × Str)) F86 (.ref p84) (("so" : Str), ("more" : Str)) := R.t2 h89 R.str R.str
            obtain ⟨p91, v94, v95, e92, h93, r96, r97⟩ := R.t2_ h90
            cases e92
            obtain rfl := R.str_ r96
            obtain rfl := R.str_ r97
            refine ⟨_, _, _, _, R.str, rfl, (.inr (O87.s _ _ h93)), (RL.mono (RL.cons R.str (RL.cons R.str RL.nil)) O87.s), _, rfl, ?_⟩
            refine iteD (fun q98 => ?_) (fun q98 => ?_)
            · have hk := wp_if hk q98
              obtain ⟨y99, e100, hk⟩ := wp_opt hk
              obtain ⟨p101, w102, e103, h104⟩ := R.sm_int r64 e100
              cases e103
              refine ⟨_, rfl, _, _, _, _, rfl, rfl, (SqTF O87.s h104), rfl, _, _, rfl, rfl, _, rfl, ?_⟩
              refine iteD (fun q105 => ?_) (fun q105 => ?_)
              · have hk := wp_if hk q105
                refine iteT ?_
                exact hk _ _  O87.g 
              · have hk := wp_el hk q105
                obtain ⟨y106, e107, hk⟩ := wp_opt hk
                obtain ⟨p108, w109, e110, h111⟩ := R.sm_int r64 e107
                cases e110
                refine ⟨_, rfl, _, _, _, _, rfl, rfl, (SqTF O87.s h111), rfl, _, rfl, _, _, rfl, rfl, _, rfl, ?_⟩
                refine iteD (fun q112 => ?_) (fun q112 => ?_)
                · have hk := wp_if hk q112
                  exact hk _ _  O87.g 
                · have hk := wp_el hk q112
                  exact ⟨F86, (), some (V.ref p65), rfl, S58, O87, hk⟩
            · have hk := wp_el hk q98
              refine iteF ?_
              exact ⟨F86, (), some (V.ref p65), rfl, S58, O87, hk⟩
        · have hk := wp_el hk q69
          refine iteF ?_
          obtain ⟨p113, w114, e115, h116⟩ := R.sm_ r64
          cases e115
          refine ⟨_, rfl, _, _, _, _, rfl, rfl, (SqTF O62.s h116), (atI0 _ _), (by show 2 ≤ sizeLine; decide), fun p117 hp118 => ?_⟩
          obtain ⟨F119, O120, S121, h122⟩ := O62.putE hp118 (.tup [V.str ("so" : Str), V.str ("more" : Str)])
          have f_sums := f_sums.mono S121
          have f_may := f_may.mono S121
          have h4 := S121 _ _ h4
          have hl5 := hl5.mono S121
          have S16 := S16.trans S121
          have r23 := r23.mono S121
          have h42 := h42.mono S121
          have h46 := S121 _ _ h46
          have hl47 := hl47.mono S121
          have S58 := S58.trans S121
          have r64 := r64.mono S121
          have h68 := S121 _ _ h68
          have h116 := S121 _ _ h116
          have h123 : R (a := (Str × Str)) F119 (.ref p117) (("so" : Str), ("more" : Str)) := R.t2 h122 R.str R.str
          obtain ⟨p124, v127, v128, e125, h126, r129, r130⟩ := R.t2_ h123
          cases e125
          obtain rfl := R.str_ r129
          obtain rfl := R.str_ r130
          refine ⟨_, _, _, _, R.str, rfl, (.inr (O120.s _ _ h126)), (RL.mono (RL.cons R.str (RL.cons R.str RL.nil)) O120.s), _, rfl, ?_⟩
          refine iteD (fun q131 => ?_) (fun q131 => ?_)
          · have hk := wp_if hk q131
            obtain ⟨y132, e133, hk⟩ := wp_opt hk
            obtain ⟨p134, w135, e136, h137⟩ := R.sm_int r64 e133
            cases e136
            refine ⟨_, rfl, _, _, _, _, rfl, rfl, (SqTF O120.s h137), rfl, _, _, rfl, rfl, _, rfl, ?_⟩
            refine iteD (fun q138 => ?_) (fun q138 => ?_)
            · have hk := wp_if hk q138
              refine iteT ?_
              exact hk _ _  O120.g 
            · have hk := wp_el hk q138
              obtain ⟨y139, e140, hk⟩ := wp_opt hk
              obtain ⟨p141, w142, e143, h144⟩ := R.sm_int r64 e140
              cases e143
              refine ⟨_, rfl, _, _, _, _, rfl, rfl, (SqTF O120.s h144), rfl, _, rfl, _, _, rfl, rfl, _, rfl, ?_⟩
              refine iteD (fun q145 => ?_) (fun q145 => ?_)
              · have hk := wp_if hk q145
                exact hk _ _  O120.g 
              · have hk := wp_el hk q145
                exact ⟨F119, (), some (V.ref p65), rfl, S58, O120, hk⟩
          · have hk := wp_el hk q131
            refine iteF ?_
            exact ⟨F119, (), some (V.ref p65), rfl, S58, O120, hk⟩
      rintro sg146 H147 ⟨F152, st149, t151, rfl, S148, O153, hL150⟩
      rw [drop_end hl47.len] at hL150
      have hk := hLd52 _ hL150
      have f_sums := f_sums.mono S148
      have f_may := f_may.mono S148
      have h4 := S148 _ _ h4
      have hl5 := hl5.mono S148
      have S16 := S16.trans S148
      have r23 := r23.mono S148
      have h42 := h42.mono S148
      have h46 := S148 _ _ h46
      have hl47 := hl47.mono S148
      exact ⟨F152, (), some x12, t151, rfl, S16, O153, hk⟩
    rintro sg155 H156 ⟨F162, st158, t160, t161, rfl, S157, O163, hL159⟩
    rw [drop_end hl5.len] at hL159
    have hk := hLd10 _ hL159
    have f_sums := f_sums.mono S157
    have f_may := f_may.mono S157
    have h4 := S157 _ _ h4
    have hl5 := hl5.mono S157
    exact hk _ _  O163.g 
abbrev s_law_due : Stmt := top 13
theorem sc_law_due : FnScope ["rule", "many", "begin", "over", "join", "told"] ["rule"] (defScope s_law_due) := ⟨rfl, rfl, rfl, by decide +kernel, rfl, by decide +kernel, by decide +kernel⟩
def m_law_due (x_rule : (T4 (List Sm) (List Sm) (List Sm) Sm)) : M (Bool) :=
if (x_rule.a.length : Int) < (1 : Int) then (
.ok false)
else (
if (3 : Int) < (x_rule.a.length : Int) then (
.ok false)
else (
if (x_rule.b.length : Int) ≠ (x_rule.a.length : Int) then (
.ok false)
else (
if (x_rule.c.length : Int) ≠ (x_rule.a.length : Int) then (
.ok false)
else (
m_law_is_good x_rule.a ([("own" : Str)]) (x_rule.a.length : Int) >>= fun r39 =>
if r39 = true then (
m_law_is_good x_rule.b ([("own" : Str), ("tie" : Str), ("more" : Str)]) (x_rule.a.length : Int) >>= fun r54 =>
if r54 = true then (
m_law_is_good x_rule.c ([("own" : Str), ("so" : Str), ("more" : Str)]) (x_rule.a.length : Int) >>= fun r69 =>
if r69 = true then (
m_law_is_good ([x_rule.d]) ([("own" : Str), ("so" : Str)]) (x_rule.a.length : Int) >>= fun r92 =>
.ok r92)
else (
.ok false))
else (
.ok false))
else (
.ok false)))))
def sp_law_due (mg : Str → Option Value) : Sp := fun vs H Q E => ∃ (F : Hp) (v_rule : V) (x_rule : (T4 (List Sm) (List Sm) (List Sm) Sm)), vs = [v_rule] ∧ Pre F [] H ∧ R (a := (T4 (List Sm) (List Sm) (List Sm) Sm)) F v_rule x_rule ∧
  wp (m_law_due x_rule) (fun r => ∀ (F' H' : Hp), Gr [] F H F' H' → Q (V.bl r) H')
  (fun n => ∀ (C : Addr) (H' : Hp), mg (Str.ofString n) = some (.ref C) → Kp [] H H' → E (.ref C) none H')
set_option maxHeartbeats 2000000 in
theorem ok_law_due (nb : Nb mg) (C_law_is_good : Ca P w K mg base "_law_is_good" 14 ["sums", "may", "many"] (sp_law_is_good mg)) (D : Df K mg "_law_due" "_law_due" s_law_due ["rule"]) : Ca P w K mg base "_law_due" 15 ["rule"] (sp_law_due mg) := by
  obtain ⟨fa_law_is_good, fd_law_is_good, G_law_is_good, M_law_is_good, K_law_is_good, B_law_is_good⟩ := C_law_is_good.ex
  refine Ca.mk' D sc_law_due (fun vs H Q E h => ?_) (fun q_ f_ cdv A outer s H vs Q E hr h => ?_)
  · obtain ⟨F, _, _, rfl, _⟩ := h
    rfl
  · obtain ⟨F, v_rule, x_rule, rfl, P0, f_rule, hk⟩ := h
    have nd := sc_law_due.nd
    have hu64 := hr.units
    have hu128 := hu128_of hr
    have O := P0.start
    refine ⟨_, (pss_cons (ps_asg (pv 0) (pg_tup rfl (pgs_cons (pg_name (i := 2) nd rfl (Or.inl rfl)) (pgs_cons (pg_name (i := 3) nd rfl (Or.inl rfl)) (pgs_cons (pg_name (i := 4) nd rfl (Or.inl rfl)) (pgs_cons (pg_name (i := 5) nd rfl (Or.inl rfl)) pgs_nil))))))
  (pss_cons (ps_set (i := 1) nd rfl (Or.inl rfl) (pe_callB call_lenT (by rfl) nb.b_len PySem.boot_len (pa_cons (pv 2) pa_nil)))
  (pss_cons (ps_if (PW.pt (pw_or (pt_cmpR op_lt (pv 1) pe_int (nomark _)) (pw_or (pt_cmpR op_gt (pv 1) pe_int (nomark _)) (pw_or (pt_cmpR (op_neT Int hu64) (pe_callB call_lenT (by rfl) nb.b_len PySem.boot_len (pa_cons (pv 3) pa_nil)) (pv 1) (nomark _)) (pw_or1 (pt_cmpR (op_neT Int hu64) (pe_callB call_lenT (by rfl) nb.b_len PySem.boot_len (pa_cons (pv 4) pa_nil)) (pv 1) (nomark _))))))) (pss_one (ps_ret pe_bl)) pss_nil)
  (pss_cons (ps_if (PW.pt (pw_or (pt_not (pt_val (pe_call G_law_is_good (hr.mono (by decide)) rfl M_law_is_good K_law_is_good B_law_is_good .nil (passes_call (takes_of rfl rfl rfl rfl) fun _ _ _ _ h => h) (pa_cons (pv 2) (pa_cons (pe_lst (pa_cons pe_str pa_nil)) (pa_cons (pv 1) pa_nil)))))) (pw_or1 (pt_not (pt_val (pe_call G_law_is_good (hr.mono (by decide)) rfl M_law_is_good K_law_is_good B_law_is_good .nil (passes_call (takes_of rfl rfl rfl rfl) fun _ _ _ _ h => h) (pa_cons (pv 3) (pa_cons (pe_lst (pa_cons pe_str (pa_cons pe_str (pa_cons pe_str pa_nil)))) (pa_cons (pv 1) pa_nil))))))))) (pss_one (ps_ret pe_bl)) pss_nil)
  (pss_one (ps_ret (pe_and (pe_call G_law_is_good (hr.mono (by decide)) rfl M_law_is_good K_law_is_good B_law_is_good .nil (passes_call (takes_of rfl rfl rfl rfl) fun _ _ _ _ h => h) (pa_cons (pv 4) (pa_cons (pe_lst (pa_cons pe_str (pa_cons pe_str (pa_cons pe_str pa_nil)))) (pa_cons (pv 1) pa_nil)))) (pe_one (pe_call G_law_is_good (hr.mono (by decide)) rfl M_law_is_good K_law_is_good B_law_is_good .nil (passes_call (takes_of rfl rfl rfl rfl) fun _ _ _ _ h => h) (pa_cons (pe_lst (pa_cons (pv 5) pa_nil)) (pa_cons (pe_lst (pa_cons pe_str (pa_cons pe_str pa_nil))) (pa_cons (pv 1) pa_nil)))))))))))), ?_⟩
    obtain ⟨p1, v4, v5, v6, v7, e2, h3, r8, r9, r10, r11⟩ := R.t4_ f_rule
    cases e2
    obtain ⟨p12, w13, e14, h15, hl16⟩ := R.lst_ r8
    cases e14
    refine ⟨_, rfl, _, _, rfl, (SqTF O.s h3), rfl, _, _, rfl, _, _, rfl, _, _, rfl, _, _, rfl, rfl, _, rfl, _, _, _, rfl, (.inl (O.s _ _ h15)), hl16.len, _, rfl, _, _, rfl, rfl, _, rfl, ?_⟩
    refine iteD (fun q17 => ?_) (fun q17 => ?_)
    · have hk := wp_if hk q17
      refine iteT ?_
      exact hk _ _  O.g 
    · have hk := wp_el hk q17
      refine ⟨_, rfl, _, _, rfl, rfl, _, rfl, ?_⟩
      refine iteD (fun q18 => ?_) (fun q18 => ?_)
      · have hk := wp_if hk q18
        refine iteT ?_
        exact hk _ _  O.g 
      · have hk := wp_el hk q18
        obtain ⟨p19, w20, e21, h22, hl23⟩ := R.lst_ r9
        cases e21
        refine ⟨_, rfl, _, _, _, rfl, (.inl (O.s _ _ h22)), hl23.len, _, rfl, _, _, R.int, R.int, _, rfl, ?_⟩
        refine iteD (fun q24 => ?_) (fun q24 => ?_)
        · have hk := wp_if hk q24
          refine iteT ?_
          exact hk _ _  O.g 
        · have hk := wp_el hk q24
          obtain ⟨p25, w26, e27, h28, hl29⟩ := R.lst_ r10
          cases e27
          refine ⟨_, rfl, _, _, _, rfl, (.inl (O.s _ _ h28)), hl29.len, _, rfl, _, _, R.int, R.int, _, rfl, ?_⟩
          refine iteD (fun q30 => ?_) (fun q30 => ?_)
          · have hk := wp_if hk q30
            exact hk _ _  O.g 
          · have hk := wp_el hk q30
            refine ⟨_, rfl, (by show 1 ≤ sizeLine; decide), fun p31 hp32 => ?_⟩
            have hl38 : RL (a := Str) F ([V.str ("own" : Str)]) ([("own" : Str)]) := RL.cons R.str RL.nil
            obtain ⟨F33, O34, S35, h36⟩ := O.putE hp32 (.lst ([V.str ("own" : Str)]))
            have f_rule := f_rule.mono S35
            have h3 := S35 _ _ h3
            have r8 := r8.mono S35
            have r9 := r9.mono S35
            have r10 := r10.mono S35
            have r11 := r11.mono S35
            have h15 := S35 _ _ h15
            have hl16 := hl16.mono S35
            have h22 := S35 _ _ h22
            have hl23 := hl23.mono S35
            have h28 := S35 _ _ h28
            have hl29 := hl29.mono S35
            have hl38 := hl38.mono S35
            have h37 := R.lst (a := Str) h36 hl38
            refine ⟨_, rfl, _, _, _, _, _, _, rfl, O34.pre0, r8, h37, wp_call hk (fun r39 er40 hk F41 H42 g43 => ?_) (fun n hn C H1 hC kp => hn C H1 hC (O34.kp0 kp))⟩
            have O44 := O34.call0 g43
            have S_ := g43.f
            have f_rule := f_rule.mono S_
            have h3 := S_ _ _ h3
            have r8 := r8.mono S_
            have r9 := r9.mono S_
            have r10 := r10.mono S_
            have r11 := r11.mono S_
            have h15 := S_ _ _ h15
            have hl16 := hl16.mono S_
            have h22 := S_ _ _ h22
            have hl23 := hl23.mono S_
            have h28 := S_ _ _ h28
            have hl29 := hl29.mono S_
            have h37 := h37.mono S_
            refine ⟨_, rfl, ?_⟩
            refine iteBN (fun q45 => ?_) (fun q45 => ?_)
            · have hk := wp_if hk q45
              refine ⟨_, rfl, (by show 3 ≤ sizeLine; decide), fun p46 hp47 => ?_⟩
              have hl53 : RL (a := Str) F41 ([V.str ("own" : Str), V.str ("tie" : Str), V.str ("more" : Str)]) ([("own" : Str), ("tie" : Str), ("more" : Str)]) := RL.cons R.str (RL.cons R.str (RL.cons R.str RL.nil))
              obtain ⟨F48, O49, S50, h51⟩ := O44.putE hp47 (.lst ([V.str ("own" : Str), V.str ("tie" : Str), V.str ("more" : Str)]))
              have f_rule := f_rule.mono S50
              have h3 := S50 _ _ h3
              have r8 := r8.mono S50
              have r9 := r9.mono S50
              have r10 := r10.mono S50
              have r11 := r11.mono S50
              have h15 := S50 _ _ h15
              have hl16 := hl16.mono S50
              have h22 := S50 _ _ h22
              have hl23 := hl23.mono S50
              have h28 := S50 _ _ h28
              have hl29 := hl29.mono S50
              have h37 := h37.mono S50
              have hl53 := hl53.mono S50
              have h52 := R.lst (a := Str) h51 hl53
              refine ⟨_, rfl, _, _, _, _, _, _, rfl, O49.pre0, r9, h52, wp_call hk (fun r54 er55 hk F56 H57 g58 => ?_) (fun n hn C H1 hC kp => hn C H1 hC (O49.kp0 kp))⟩
              have O59 := O49.call0 g58
              have S_ := g58.f
              have f_rule := f_rule.mono S_
              have h3 := S_ _ _ h3
              have r8 := r8.mono S_
              have r9 := r9.mono S_
              have r10 := r10.mono S_
              have r11 := r11.mono S_
              have h15 := S_ _ _ h15
              have hl16 := hl16.mono S_
              have h22 := S_ _ _ h22
              have hl23 := hl23.mono S_
              have h28 := S_ _ _ h28
              have hl29 := hl29.mono S_
              have h37 := h37.mono S_
              have h52 := h52.mono S_
              refine ⟨_, rfl, ?_⟩
              refine iteBN (fun q60 => ?_) (fun q60 => ?_)
              · have hk := wp_if hk q60
                refine ⟨_, rfl, (by show 3 ≤ sizeLine; decide), fun p61 hp62 => ?_⟩
                have hl68 : RL (a := Str) F56 ([V.str ("own" : Str), V.str ("so" : Str), V.str ("more" : Str)]) ([("own" : Str), ("so" : Str), ("more" : Str)]) := RL.cons R.str (RL.cons R.str (RL.cons R.str RL.nil))
                obtain ⟨F63, O64, S65, h66⟩ := O59.putE hp62 (.lst ([V.str ("own" : Str), V.str ("so" : Str), V.str ("more" : Str)]))
                have f_rule := f_rule.mono S65
                have h3 := S65 _ _ h3
                have r8 := r8.mono S65
                have r9 := r9.mono S65
                have r10 := r10.mono S65
                have r11 := r11.mono S65
                have h15 := S65 _ _ h15
                have hl16 := hl16.mono S65
                have h22 := S65 _ _ h22
                have hl23 := hl23.mono S65
                have h28 := S65 _ _ h28
                have hl29 := hl29.mono S65
                have h37 := h37.mono S65
                have h52 := h52.mono S65
                have hl68 := hl68.mono S65
                have h67 := R.lst (a := Str) h66 hl68
                refine ⟨_, rfl, _, _, _, _, _, _, rfl, O64.pre0, r10, h67, wp_call hk (fun r69 er70 hk F71 H72 g73 => ?_) (fun n hn C H1 hC kp => hn C H1 hC (O64.kp0 kp))⟩
                have O74 := O64.call0 g73
                have S_ := g73.f
                have f_rule := f_rule.mono S_
                have h3 := S_ _ _ h3
                have r8 := r8.mono S_
                have r9 := r9.mono S_
                have r10 := r10.mono S_
                have r11 := r11.mono S_
                have h15 := S_ _ _ h15
                have hl16 := hl16.mono S_
                have h22 := S_ _ _ h22
                have hl23 := hl23.mono S_
                have h28 := S_ _ _ h28
                have hl29 := hl29.mono S_
                have h37 := h37.mono S_
                have h52 := h52.mono S_
                have h67 := h67.mono S_
                refine ⟨_, rfl, ?_⟩
                refine iteB (fun q75 => ?_) (fun q75 => ?_)
                · have hk := wp_if hk q75
                  refine ⟨_, rfl, (by show 1 ≤ sizeLine; decide), fun p76 hp77 => ?_⟩
                  have hl83 : RL (a := Sm) F71 ([v7]) ([x_rule.d]) := RL.cons r11 RL.nil
                  obtain ⟨F78, O79, S80, h81⟩ := O74.putE hp77 (.lst ([v7]))
                  have f_rule := f_rule.mono S80
                  have h3 := S80 _ _ h3
                  have r8 := r8.mono S80
                  have r9 := r9.mono S80
                  have r10 := r10.mono S80
                  have r11 := r11.mono S80
                  have h15 := S80 _ _ h15
                  have hl16 := hl16.mono S80
                  have h22 := S80 _ _ h22
                  have hl23 := hl23.mono S80
                  have h28 := S80 _ _ h28
                  have hl29 := hl29.mono S80
                  have h37 := h37.mono S80
                  have h52 := h52.mono S80
                  have h67 := h67.mono S80
                  have hl83 := hl83.mono S80
                  have h82 := R.lst (a := Sm) h81 hl83
                  refine ⟨(by show 2 ≤ sizeLine; decide), fun p84 hp85 => ?_⟩
                  have hl91 : RL (a := Str) F78 ([V.str ("own" : Str), V.str ("so" : Str)]) ([("own" : Str), ("so" : Str)]) := RL.cons R.str (RL.cons R.str RL.nil)
                  obtain ⟨F86, O87, S88, h89⟩ := O79.putE hp85 (.lst ([V.str ("own" : Str), V.str ("so" : Str)]))
                  have f_rule := f_rule.mono S88
                  have h3 := S88 _ _ h3
                  have r8 := r8.mono S88
                  have r9 := r9.mono S88
                  have r10 := r10.mono S88
                  have r11 := r11.mono S88
                  have h15 := S88 _ _ h15
                  have hl16 := hl16.mono S88
                  have h22 := S88 _ _ h22
                  have hl23 := hl23.mono S88
                  have h28 := S88 _ _ h28
                  have hl29 := hl29.mono S88
                  have h37 := h37.mono S88
                  have h52 := h52.mono S88
                  have h67 := h67.mono S88
                  have h82 := h82.mono S88
                  have hl91 := hl91.mono S88
                  have h90 := R.lst (a := Str) h89 hl91
                  refine ⟨_, rfl, _, _, _, _, _, _, rfl, O87.pre0, h82, h90, wp_call hk (fun r92 er93 hk F94 H95 g96 => ?_) (fun n hn C H1 hC kp => hn C H1 hC (O87.kp0 kp))⟩
                  have O97 := O87.call0 g96
                  have S_ := g96.f
                  have f_rule := f_rule.mono S_
                  have h3 := S_ _ _ h3
                  have r8 := r8.mono S_
                  have r9 := r9.mono S_
                  have r10 := r10.mono S_
                  have r11 := r11.mono S_
                  have h15 := S_ _ _ h15
                  have hl16 := hl16.mono S_
                  have h22 := S_ _ _ h22
                  have hl23 := hl23.mono S_
                  have h28 := S_ _ _ h28
                  have hl29 := hl29.mono S_
                  have h37 := h37.mono S_
                  have h52 := h52.mono S_
                  have h67 := h67.mono S_
                  have h82 := h82.mono S_
                  have h90 := h90.mono S_
                  exact hk _ _  O97.g 
                · have hk := wp_el hk q75
                  exact hk _ _  O74.g 
              · have hk := wp_el hk q60
                exact hk _ _  O59.g 
            · have hk := wp_el hk q45
              refine iteT ?_
              exact hk _ _  O44.g 
abbrev s_law_bad_sum : Stmt := top 14
theorem sc_law_bad_sum : FnScope ["deck", "many", "far", "odd", "found", "k", "word"] ["deck", "many"] (defScope s_law_bad_sum) := ⟨rfl, rfl, rfl, by decide +kernel, rfl, by decide +kernel, by decide +kernel⟩
def m_law_bad_sum (x_deck : (List Int)) (x_many : Int) : M (Sm × (List Int)) :=
m_law_take x_deck (3 : Int) >>= fun r9 =>
opt (atI ([(1 : Int), (3 : Int), ((10 : Int) ^ Int.toNat (20 : Int))]) r9.1) >>= fun y23 =>
m_law_take r9.2 y23 >>= fun r28 =>
m_law_take r28.2 (4 : Int) >>= fun r51 =>
m_law_take r51.2 (4 : Int) >>= fun r67 =>
ret ([(Sm.nam ("own" : Str)), (Sm.nam ("tie" : Str)), (Sm.num (("so" : Str), r51.1).1 (("so" : Str), r51.1).2), (Sm.num (("more" : Str), r67.1).1 (("more" : Str), r67.1).2), (Sm.num (("so" : Str), (x_many + r28.1)).1 (("so" : Str), (x_many + r28.1)).2)]) >>= fun n98 =>
chk (n98.length + ([(Sm.num (("more" : Str), (x_many + r28.1)).1 (("more" : Str), (x_many + r28.1)).2), (Sm.num (("so" : Str), ((-(1 : Int)) - r28.1)).1 (("so" : Str), ((-(1 : Int)) - r28.1)).2), (Sm.num (("more" : Str), ((-(1 : Int)) - r28.1)).1 (("more" : Str), ((-(1 : Int)) - r28.1)).2), (Sm.num (("number" : Str), ((10 : Int) ^ Int.toNat (29 : Int))).1 (("number" : Str), ((10 : Int) ^ Int.toNat (29 : Int))).2)]).length < 16777216) >>= fun _ =>
ret (n98 ++ ([(Sm.num (("more" : Str), (x_many + r28.1)).1 (("more" : Str), (x_many + r28.1)).2), (Sm.num (("so" : Str), ((-(1 : Int)) - r28.1)).1 (("so" : Str), ((-(1 : Int)) - r28.1)).2), (Sm.num (("more" : Str), ((-(1 : Int)) - r28.1)).1 (("more" : Str), ((-(1 : Int)) - r28.1)).2), (Sm.num (("number" : Str), ((10 : Int) ^ Int.toNat (29 : Int))).1 (("number" : Str), ((10 : Int) ^ Int.toNat (29 : Int))).2)])) >>= fun n156 =>
m_law_take r67.2 (9 : Int) >>= fun r159 =>
opt (atI n156 r159.1) >>= fun y173 =>
m_law_take r159.2 (4 : Int) >>= fun r178 =>
chk (okR r178.1) >>= fun _ =>
loopN (fun (y187 : Int) (st199 : Sm × (List Int)) =>
m_law_take st199.2 (5 : Int) >>= fun r216 =>
opt (atI ([("plus" : Str), ("less" : Str), ("times" : Str), ("most" : Str), ("least" : Str)]) r216.1) >>= fun y230 =>
m_law_take r216.2 (2 : Int) >>= fun r272 =>
opt (atI ([(Sm.two (T3.mk y230 st199.1 (Sm.nam ("own" : Str))).a (T3.mk y230 st199.1 (Sm.nam ("own" : Str))).b (T3.mk y230 st199.1 (Sm.nam ("own" : Str))).c), (Sm.two (T3.mk y230 (Sm.num (("number" : Str), (1 : Int)).1 (("number" : Str), (1 : Int)).2) st199.1).a (T3.mk y230 (Sm.num (("number" : Str), (1 : Int)).1 (("number" : Str), (1 : Int)).2) st199.1).b (T3.mk y230 (Sm.num (("number" : Str), (1 : Int)).1 (("number" : Str), (1 : Int)).2) st199.1).c)]) r272.1) >>= fun y286 =>
.ok (y286, r272.2)) (rangeL 0 r178.1) (y173, r178.2) >>= fun st294 =>
.ok (st294.1, st294.2)
def sp_law_bad_sum (mg : Str → Option Value) : Sp := fun vs H Q E => ∃ (F : Hp) (a_deck : Addr) (w_deck : (List V)) (x_deck : (List Int)) (x_many : Int), vs = [.ref a_deck, V.int x_many] ∧ Pre F [(a_deck, .lst w_deck)] H ∧ RL (a := Int) F w_deck x_deck ∧
  wp (m_law_bad_sum x_deck x_many) (fun r => ∀ (F' H' : Hp) (w0 : (List V)), Gr [a_deck] F H F' H' → H' a_deck = some (.lst w0) → RL (a := Int) F' w0 r.2 → ∀ v : V, R (a := Sm) F' v r.1 → Q v H')
  (fun n => ∀ (C : Addr) (H' : Hp), mg (Str.ofString n) = some (.ref C) → Kp [a_deck] H H' → E (.ref C) none H')
set_option maxHeartbeats 2000000 in
theorem ok_law_bad_sum (nb : Nb mg) (C_law_take : Ca P w K mg base "_law_take" 1 ["deck", "many"] (sp_law_take mg)) (D : Df K mg "_law_bad_sum" "_law_bad_sum" s_law_bad_sum ["deck", "many"]) : Ca P w K mg base "_law_bad_sum" 2 ["deck", "many"] (sp_law_bad_sum mg) := by
  obtain ⟨fa_law_take, fd_law_take, G_law_take, M_law_take, K_law_take, B_law_take⟩ := C_law_take.ex
  refine Ca.mk' D sc_law_bad_sum (fun vs H Q E h => ?_) (fun q_ f_ cdv A outer s H vs Q E hr h => ?_)
  · obtain ⟨F, _, _, _, _, rfl, _⟩ := h
    rfl
  · obtain ⟨F, a_deck, w_deck, x_deck, x_many, rfl, P0, f_deck, hk⟩ := h
    have nd := sc_law_bad_sum.nd
    have hu64 := hr.units
    have hu128 := hu128_of hr
    have O := P0.start
    refine ⟨_, (pss_cons (ps_set (i := 2) nd rfl (Or.inl rfl) (pe_call G_law_take (hr.mono (by decide)) rfl M_law_take K_law_take B_law_take .nil (passes_call (takes_of rfl rfl rfl rfl) fun _ _ _ _ h => h) (pa_cons (pv 0) (pa_cons (pe_ix (ixListK (K := K) rfl) (pe_lst (pa_cons pe_int (pa_cons pe_int (pa_cons (pe_op op_pow pe_int pe_int) pa_nil)))) (pe_call G_law_take (hr.mono (by decide)) rfl M_law_take K_law_take B_law_take .nil (passes_call (takes_of rfl rfl rfl rfl) fun _ _ _ _ h => h) (pa_cons (pv 0) (pa_cons pe_int pa_nil))) (fun _ _ => rfl)) pa_nil))))
  (pss_cons (ps_set (i := 3) nd rfl (Or.inl rfl) (pe_lst (pa_cons (pe_tup (pa_cons pe_str pa_nil)) (pa_cons (pe_tup (pa_cons pe_str pa_nil)) (pa_cons (pe_tup (pa_cons pe_str (pa_cons (pe_call G_law_take (hr.mono (by decide)) rfl M_law_take K_law_take B_law_take .nil (passes_call (takes_of rfl rfl rfl rfl) fun _ _ _ _ h => h) (pa_cons (pv 0) (pa_cons pe_int pa_nil))) pa_nil))) (pa_cons (pe_tup (pa_cons pe_str (pa_cons (pe_call G_law_take (hr.mono (by decide)) rfl M_law_take K_law_take B_law_take .nil (passes_call (takes_of rfl rfl rfl rfl) fun _ _ _ _ h => h) (pa_cons (pv 0) (pa_cons pe_int pa_nil))) pa_nil))) (pa_cons (pe_tup (pa_cons pe_str (pa_cons (pe_op op_add (pv 1) (pv 2)) pa_nil))) pa_nil)))))))
  (pss_cons (ps_set (i := 3) nd rfl (Or.inl rfl) (pe_op op_cat (pv 3) (pe_lst (pa_cons (pe_tup (pa_cons pe_str (pa_cons (pe_op op_add (pv 1) (pv 2)) pa_nil))) (pa_cons (pe_tup (pa_cons pe_str (pa_cons (pe_op op_sub (pe_un un_neg pe_int) (pv 2)) pa_nil))) (pa_cons (pe_tup (pa_cons pe_str (pa_cons (pe_op op_sub (pe_un un_neg pe_int) (pv 2)) pa_nil))) (pa_cons (pe_tup (pa_cons pe_str (pa_cons (pe_op op_pow pe_int pe_int) pa_nil))) pa_nil)))))))
  (pss_cons (ps_set (i := 4) nd rfl (Or.inl rfl) (pe_ix (ixListK (K := K) rfl) (pv 3) (pe_call G_law_take (hr.mono (by decide)) rfl M_law_take K_law_take B_law_take .nil (passes_call (takes_of rfl rfl rfl rfl) fun _ _ _ _ h => h) (pa_cons (pv 0) (pa_cons pe_int pa_nil))) (fun _ _ => rfl)))
  (pss_cons (ps_for (passes_of rfl) rfl (pi_range1 rfl nb.b_range (pa_cons (pe_call G_law_take (hr.mono (by decide)) rfl M_law_take K_law_take B_law_take .nil (passes_call (takes_of rfl rfl rfl rfl) fun _ _ _ _ h => h) (pa_cons (pv 0) (pa_cons pe_int pa_nil))) pa_nil)) (pg_name (i := 5) nd rfl (Or.inl rfl)) (pss_cons (ps_set (i := 6) nd rfl (Or.inl rfl) (pe_ix (ixListK (K := K) rfl) (pe_lst (pa_cons pe_str (pa_cons pe_str (pa_cons pe_str (pa_cons pe_str (pa_cons pe_str pa_nil)))))) (pe_call G_law_take (hr.mono (by decide)) rfl M_law_take K_law_take B_law_take .nil (passes_call (takes_of rfl rfl rfl rfl) fun _ _ _ _ h => h) (pa_cons (pv 0) (pa_cons pe_int pa_nil))) (fun _ _ => rfl)))
  (pss_one (ps_set (i := 4) nd rfl (Or.inl rfl) (pe_ix (ixListK (K := K) rfl) (pe_lst (pa_cons (pe_tup (pa_cons (pv 6) (pa_cons (pv 4) (pa_cons (pe_tup (pa_cons pe_str pa_nil)) pa_nil)))) (pa_cons (pe_tup (pa_cons (pv 6) (pa_cons (pe_tup (pa_cons pe_str (pa_cons pe_int pa_nil))) (pa_cons (pv 4) pa_nil)))) pa_nil))) (pe_call G_law_take (hr.mono (by decide)) rfl M_law_take K_law_take B_law_take .nil (passes_call (takes_of rfl rfl rfl rfl) fun _ _ _ _ h => h) (pa_cons (pv 0) (pa_cons pe_int pa_nil))) (fun _ _ => rfl))))))
  (pss_one (ps_ret (pv 4)))))))), ?_⟩
    refine ⟨_, rfl, _, _, rfl, rfl, (by decide), (by show 3 ≤ sizeLine; decide), fun p1 hp2 => ?_⟩
    have hl8 : RL (a := Int) F ([V.int (1 : Int), V.int (3 : Int), V.int ((10 : Int) ^ Int.toNat (20 : Int))]) ([(1 : Int), (3 : Int), ((10 : Int) ^ Int.toNat (20 : Int))]) := RL.cons R.int (RL.cons R.int (RL.cons R.int RL.nil))
    obtain ⟨F3, O4, S5, h6⟩ := O.putE hp2 (.lst ([V.int (1 : Int), V.int (3 : Int), V.int ((10 : Int) ^ Int.toNat (20 : Int))]))
    have f_deck := f_deck.mono S5
    have hl8 := hl8.mono S5
    have h7 := R.lst (a := Int) h6 hl8
    refine ⟨_, rfl, _, _, _, _, _, rfl, (O4.pre1 0 rfl), f_deck, wp_call hk (fun r9 er10 hk F11 H12 w14 g13 h15 hl16 => ?_) (fun n hn C H1 hC kp => hn C H1 hC (O4.kp1 kp 0 rfl))⟩
    have O17 := O4.call1 g13 0 rfl h15
    have S_ := g13.f
    have h7 := h7.mono S_
    obtain ⟨p18, w19, e20, h21, hl22⟩ := R.lst_ h7
    cases e20
    obtain ⟨y23, e24, hk⟩ := wp_opt hk
    obtain ⟨w25, e26, r27⟩ := hl22.atI e24
    obtain rfl := R.int_ r27
    refine ⟨_, _, _, _, rfl, rfl, (SqLF O17.s h21), e26, _, _, _, _, _, rfl, (O17.pre1 0 rfl), hl16, wp_call hk (fun r28 er29 hk F30 H31 w33 g32 h34 hl35 => ?_) (fun n hn C H1 hC kp => hn C H1 hC (O17.kp1 kp 0 rfl))⟩
    have O36 := O17.call1 g32 0 rfl h34
    have S_ := g32.f
    have h7 := h7.mono S_
    have h21 := S_ _ _ h21
    have hl22 := hl22.mono S_
    refine ⟨(by show 1 ≤ sizeLine; decide), fun p37 hp38 => ?_⟩
    obtain ⟨F39, O40, S41, h42⟩ := O36.putE hp38 (.tup [V.str ("own" : Str)])
    have h7 := h7.mono S41
    have h21 := S41 _ _ h21
    have hl22 := hl22.mono S41
    have hl35 := hl35.mono S41
    have h43 := R.of_nam h42
    refine ⟨(by show 1 ≤ sizeLine; decide), fun p44 hp45 => ?_⟩
    obtain ⟨F46, O47, S48, h49⟩ := O40.putE hp45 (.tup [V.str ("tie" : Str)])
    have h7 := h7.mono S48
    have h21 := S48 _ _ h21
    have hl22 := hl22.mono S48
    have hl35 := hl35.mono S48
    have h43 := h43.mono S48
    have h50 := R.of_nam h49
    refine ⟨_, rfl, _, _, _, _, _, rfl, (O47.pre1 0 rfl), hl35, wp_call hk (fun r51 er52 hk F53 H54 w56 g55 h57 hl58 => ?_) (fun n hn C H1 hC kp => hn C H1 hC (O47.kp1 kp 0 rfl))⟩
    have O59 := O47.call1 g55 0 rfl h57
    have S_ := g55.f
    have h7 := h7.mono S_
    have h21 := S_ _ _ h21
    have hl22 := hl22.mono S_
    have h43 := h43.mono S_
    have h50 := h50.mono S_
    refine ⟨(by show 2 ≤ sizeLine; decide), fun p60 hp61 => ?_⟩
    obtain ⟨F62, O63, S64, h65⟩ := O59.putE hp61 (.tup [V.str ("so" : Str), V.int r51.1])
    have h7 := h7.mono S64
    have h21 := S64 _ _ h21
    have hl22 := hl22.mono S64
    have h43 := h43.mono S64
    have h50 := h50.mono S64
    have hl58 := hl58.mono S64
    have h66 : R (a := (Str × Int)) F62 (.ref p60) (("so" : Str), r51.1) := R.t2 h65 R.str R.int
    refine ⟨_, rfl, _, _, _, _, _, rfl, (O63.pre1 0 rfl), hl58, wp_call hk (fun r67 er68 hk F69 H70 w72 g71 h73 hl74 => ?_) (fun n hn C H1 hC kp => hn C H1 hC (O63.kp1 kp 0 rfl))⟩
    have O75 := O63.call1 g71 0 rfl h73
    have S_ := g71.f
    have h7 := h7.mono S_
    have h21 := S_ _ _ h21
    have hl22 := hl22.mono S_
    have h43 := h43.mono S_
    have h50 := h50.mono S_
    have h66 := h66.mono S_
    refine ⟨(by show 2 ≤ sizeLine; decide), fun p76 hp77 => ?_⟩
    obtain ⟨F78, O79, S80, h81⟩ := O75.putE hp77 (.tup [V.str ("more" : Str), V.int r67.1])
    have h7 := h7.mono S80
    have h21 := S80 _ _ h21
    have hl22 := hl22.mono S80
    have h43 := h43.mono S80
    have h50 := h50.mono S80
    have h66 := h66.mono S80
    have hl74 := hl74.mono S80
    have h82 : R (a := (Str × Int)) F78 (.ref p76) (("more" : Str), r67.1) := R.t2 h81 R.str R.int
    refine ⟨_, rfl, _, rfl, _, _, rfl, rfl, (by show 2 ≤ sizeLine; decide), fun p83 hp84 => ?_⟩
    obtain ⟨F85, O86, S87, h88⟩ := O79.putE hp84 (.tup [V.str ("so" : Str), V.int (x_many + r28.1)])
    have h7 := h7.mono S87
    have h21 := S87 _ _ h21
    have hl22 := hl22.mono S87
    have h43 := h43.mono S87
    have h50 := h50.mono S87
    have h66 := h66.mono S87
    have hl74 := hl74.mono S87
    have h82 := h82.mono S87
    have h89 : R (a := (Str × Int)) F85 (.ref p83) (("so" : Str), (x_many + r28.1)) := R.t2 h88 R.str R.int
    refine ⟨(by show 5 ≤ sizeLine; decide), fun p90 hp91 => ?_⟩
    have hl97 : RL (a := Sm) F85 ([V.ref p37, V.ref p44, V.ref p60, V.ref p76, V.ref p83]) ([(Sm.nam ("own" : Str)), (Sm.nam ("tie" : Str)), (Sm.num (("so" : Str), r51.1).1 (("so" : Str), r51.1).2), (Sm.num (("more" : Str), r67.1).1 (("more" : Str), r67.1).2), (Sm.num (("so" : Str), (x_many + r28.1)).1 (("so" : Str), (x_many + r28.1)).2)]) := RL.cons h43 (RL.cons h50 (RL.cons (R.of_num h66) (RL.cons (R.of_num h82) (RL.cons (R.of_num h89) RL.nil))))
    obtain ⟨F92, O93, S94, h95⟩ := O86.putE hp91 (.lst ([V.ref p37, V.ref p44, V.ref p60, V.ref p76, V.ref p83]))
    have h7 := h7.mono S94
    have h21 := S94 _ _ h21
    have hl22 := hl22.mono S94
    have h43 := h43.mono S94
    have h50 := h50.mono S94
    have h66 := h66.mono S94
    have hl74 := hl74.mono S94
    have h82 := h82.mono S94
    have h89 := h89.mono S94
    have hl97 := hl97.mono S94
    have h96 := R.lst (a := Sm) h95 hl97
    obtain ⟨n98, hn99, hk⟩ := wp_ret hk
    have h100 : R (a := (List Sm)) F92 (V.ref p90) n98 := by rw [hn99]; exact h96
    clear hn99
    refine ⟨_, rfl, _, rfl, _, rfl, _, _, rfl, rfl, (by show 2 ≤ sizeLine; decide), fun p101 hp102 => ?_⟩
    obtain ⟨F103, O104, S105, h106⟩ := O93.putE hp102 (.tup [V.str ("more" : Str), V.int (x_many + r28.1)])
    have h7 := h7.mono S105
    have h21 := S105 _ _ h21
    have hl22 := hl22.mono S105
    have h43 := h43.mono S105
    have h50 := h50.mono S105
    have h66 := h66.mono S105
    have hl74 := hl74.mono S105
    have h82 := h82.mono S105
    have h89 := h89.mono S105
    have h96 := h96.mono S105
    have h100 := h100.mono S105
    have h107 : R (a := (Str × Int)) F103 (.ref p101) (("more" : Str), (x_many + r28.1)) := R.t2 h106 R.str R.int
    refine ⟨_, rfl, _, rfl, _, _, rfl, rfl, (by show 2 ≤ sizeLine; decide), fun p108 hp109 => ?_⟩
    obtain ⟨F110, O111, S112, h113⟩ := O104.putE hp109 (.tup [V.str ("so" : Str), V.int ((-(1 : Int)) - r28.1)])
    have h7 := h7.mono S112
    have h21 := S112 _ _ h21
    have hl22 := hl22.mono S112
    have h43 := h43.mono S112
    have h50 := h50.mono S112
    have h66 := h66.mono S112
    have hl74 := hl74.mono S112
    have h82 := h82.mono S112
    have h89 := h89.mono S112
    have h96 := h96.mono S112
    have h100 := h100.mono S112
    have h107 := h107.mono S112
    have h114 : R (a := (Str × Int)) F110 (.ref p108) (("so" : Str), ((-(1 : Int)) - r28.1)) := R.t2 h113 R.str R.int
    refine ⟨_, rfl, _, rfl, _, _, rfl, rfl, (by show 2 ≤ sizeLine; decide), fun p115 hp116 => ?_⟩
    obtain ⟨F117, O118, S119, h120⟩ := O111.putE hp116 (.tup [V.str ("more" : Str), V.int ((-(1 : Int)) - r28.1)])
    have h7 := h7.mono S119
    have h21 := S119 _ _ h21
    have hl22 := hl22.mono S119
    have h43 := h43.mono S119
    have h50 := h50.mono S119
    have h66 := h66.mono S119
    have hl74 := hl74.mono S119
    have h82 := h82.mono S119
    have h89 := h89.mono S119
    have h96 := h96.mono S119
    have h100 := h100.mono S119
    have h107 := h107.mono S119
    have h114 := h114.mono S119
    have h121 : R (a := (Str × Int)) F117 (.ref p115) (("more" : Str), ((-(1 : Int)) - r28.1)) := R.t2 h120 R.str R.int
    refine ⟨_, _, rfl, rfl, (by decide), (by show 2 ≤ sizeLine; decide), fun p122 hp123 => ?_⟩
    obtain ⟨F124, O125, S126, h127⟩ := O118.putE hp123 (.tup [V.str ("number" : Str), V.int ((10 : Int) ^ Int.toNat (29 : Int))])
    have h7 := h7.mono S126
    have h21 := S126 _ _ h21
    have hl22 := hl22.mono S126
    have h43 := h43.mono S126
    have h50 := h50.mono S126
    have h66 := h66.mono S126
    have hl74 := hl74.mono S126
    have h82 := h82.mono S126
    have h89 := h89.mono S126
    have h96 := h96.mono S126
    have h100 := h100.mono S126
    have h107 := h107.mono S126
    have h114 := h114.mono S126
    have h121 := h121.mono S126
    have h128 : R (a := (Str × Int)) F124 (.ref p122) (("number" : Str), ((10 : Int) ^ Int.toNat (29 : Int))) := R.t2 h127 R.str R.int
    refine ⟨(by show 4 ≤ sizeLine; decide), fun p129 hp130 => ?_⟩
    have hl136 : RL (a := Sm) F124 ([V.ref p101, V.ref p108, V.ref p115, V.ref p122]) ([(Sm.num (("more" : Str), (x_many + r28.1)).1 (("more" : Str), (x_many + r28.1)).2), (Sm.num (("so" : Str), ((-(1 : Int)) - r28.1)).1 (("so" : Str), ((-(1 : Int)) - r28.1)).2), (Sm.num (("more" : Str), ((-(1 : Int)) - r28.1)).1 (("more" : Str), ((-(1 : Int)) - r28.1)).2), (Sm.num (("number" : Str), ((10 : Int) ^ Int.toNat (29 : Int))).1 (("number" : Str), ((10 : Int) ^ Int.toNat (29 : Int))).2)]) := RL.cons (R.of_num h107) (RL.cons (R.of_num h114) (RL.cons (R.of_num h121) (RL.cons (R.of_num h128) RL.nil)))
    obtain ⟨F131, O132, S133, h134⟩ := O125.putE hp130 (.lst ([V.ref p101, V.ref p108, V.ref p115, V.ref p122]))
    have h7 := h7.mono S133
    have h21 := S133 _ _ h21
    have hl22 := hl22.mono S133
    have h43 := h43.mono S133
    have h50 := h50.mono S133
    have h66 := h66.mono S133
    have hl74 := hl74.mono S133
    have h82 := h82.mono S133
    have h89 := h89.mono S133
    have h96 := h96.mono S133
    have h100 := h100.mono S133
    have h107 := h107.mono S133
    have h114 := h114.mono S133
    have h121 := h121.mono S133
    have h128 := h128.mono S133
    have hl136 := hl136.mono S133
    have h135 := R.lst (a := Sm) h134 hl136
    obtain ⟨p137, w138, e139, h140, hl141⟩ := R.lst_ h100
    cases e139
    obtain ⟨p142, w143, e144, h145, hl146⟩ := R.lst_ h135
    cases e144
    obtain ⟨c147, hk⟩ := wp_chk hk
    refine ⟨_, _, _, _, rfl, rfl, (O132.s _ _ h140), (O132.s _ _ h145), (by rw [hl141.len, hl146.len]; exact le_line c147), fun p148 hp149 => ?_⟩
    have hl155 : RL (a := Sm) F131 (w138 ++ w143) (n98 ++ ([(Sm.num (("more" : Str), (x_many + r28.1)).1 (("more" : Str), (x_many + r28.1)).2), (Sm.num (("so" : Str), ((-(1 : Int)) - r28.1)).1 (("so" : Str), ((-(1 : Int)) - r28.1)).2), (Sm.num (("more" : Str), ((-(1 : Int)) - r28.1)).1 (("more" : Str), ((-(1 : Int)) - r28.1)).2), (Sm.num (("number" : Str), ((10 : Int) ^ Int.toNat (29 : Int))).1 (("number" : Str), ((10 : Int) ^ Int.toNat (29 : Int))).2)])) := RL.app hl141 hl146
    obtain ⟨F150, O151, S152, h153⟩ := O132.putE hp149 (.lst (w138 ++ w143))
    have h7 := h7.mono S152
    have h21 := S152 _ _ h21
    have hl22 := hl22.mono S152
    have h43 := h43.mono S152
    have h50 := h50.mono S152
    have h66 := h66.mono S152
    have hl74 := hl74.mono S152
    have h82 := h82.mono S152
    have h89 := h89.mono S152
    have h96 := h96.mono S152
    have h100 := h100.mono S152
    have h107 := h107.mono S152
    have h114 := h114.mono S152
    have h121 := h121.mono S152
    have h128 := h128.mono S152
    have h135 := h135.mono S152
    have h140 := S152 _ _ h140
    have hl141 := hl141.mono S152
    have h145 := S152 _ _ h145
    have hl146 := hl146.mono S152
    have hl155 := hl155.mono S152
    have h154 := R.lst (a := Sm) h153 hl155
    obtain ⟨n156, hn157, hk⟩ := wp_ret hk
    have h158 : R (a := (List Sm)) F150 (V.ref p148) n156 := by rw [hn157]; exact h154
    clear hn157
    refine ⟨_, rfl, _, rfl, _, _, _, _, _, rfl, (O151.pre1 0 rfl), hl74, wp_call hk (fun r159 er160 hk F161 H162 w164 g163 h165 hl166 => ?_) (fun n hn C H1 hC kp => hn C H1 hC (O151.kp1 kp 0 rfl))⟩
    have O167 := O151.call1 g163 0 rfl h165
    have S_ := g163.f
    have h7 := h7.mono S_
    have h21 := S_ _ _ h21
    have hl22 := hl22.mono S_
    have h43 := h43.mono S_
    have h50 := h50.mono S_
    have h66 := h66.mono S_
    have h82 := h82.mono S_
    have h89 := h89.mono S_
    have h96 := h96.mono S_
    have h100 := h100.mono S_
    have h107 := h107.mono S_
    have h114 := h114.mono S_
    have h121 := h121.mono S_
    have h128 := h128.mono S_
    have h135 := h135.mono S_
    have h140 := S_ _ _ h140
    have hl141 := hl141.mono S_
    have h145 := S_ _ _ h145
    have hl146 := hl146.mono S_
    have h154 := h154.mono S_
    have h158 := h158.mono S_
    obtain ⟨p168, w169, e170, h171, hl172⟩ := R.lst_ h158
    cases e170
    obtain ⟨y173, e174, hk⟩ := wp_opt hk
    obtain ⟨w175, e176, r177⟩ := hl172.atI e174
    refine ⟨_, _, _, _, rfl, rfl, (SqLF O167.s h171), e176, _, rfl, _, _, _, _, _, rfl, (O167.pre1 0 rfl), hl166, wp_call hk (fun r178 er179 hk F180 H181 w183 g182 h184 hl185 => ?_) (fun n hn C H1 hC kp => hn C H1 hC (O167.kp1 kp 0 rfl))⟩
    have O186 := O167.call1 g182 0 rfl h184
    have S_ := g182.f
    have h7 := h7.mono S_
    have h21 := S_ _ _ h21
    have hl22 := hl22.mono S_
    have h43 := h43.mono S_
    have h50 := h50.mono S_
    have h66 := h66.mono S_
    have h82 := h82.mono S_
    have h89 := h89.mono S_
    have h96 := h96.mono S_
    have h100 := h100.mono S_
    have h107 := h107.mono S_
    have h114 := h114.mono S_
    have h121 := h121.mono S_
    have h128 := h128.mono S_
    have h135 := h135.mono S_
    have h140 := S_ _ _ h140
    have hl141 := hl141.mono S_
    have h145 := S_ _ _ h145
    have hl146 := hl146.mono S_
    have h154 := h154.mono S_
    have h158 := h158.mono S_
    have h171 := S_ _ _ h171
    have hl172 := hl172.mono S_
    have r177 := r177.mono S_
    obtain ⟨c188, hk⟩ := wp_chk hk
    obtain ⟨L189, hL190, hLs191, hLd192⟩ := loopN_L hk
    refine ⟨_, rfl, c188.lo, c188.hi, ?_⟩
    refine for_range (lo := 0) (n := (r178.1).toNat) (fun i σ H => ∃ (F_ : Hp) (st : Sm × (List Int)) (v_0 : V) (w_0 : (List V)) (t_0 : Option V) (t_1 : Option V), σ = [some (V.ref a_deck), some (V.int x_many), some (V.int r28.1), some (V.ref p148), some v_0, t_0, t_1] ∧ Same F180 F_ ∧ Ow _ F_ [(a_deck, .lst w_0)] H ∧ R (a := Sm) F_ v_0 st.1 ∧ RL (a := Int) F_ w_0 st.2 ∧ L189 (List.drop i (rangeL 0 r178.1)) st) ⟨F180, (y173, r178.2), w175, w183, none, none, rfl, Same.refl _, O186, r177, hl185, hL190⟩ ?_ ?_
    · rintro i193 sg195 H196 hi197 ⟨F206, st199, v200, w202, t204, t205, rfl, S198, O207, r201, hl203, hL190⟩
      have h7 := h7.mono S198
      have h21 := S198 _ _ h21
      have hl22 := hl22.mono S198
      have h43 := h43.mono S198
      have h50 := h50.mono S198
      have h66 := h66.mono S198
      have h82 := h82.mono S198
      have h89 := h89.mono S198
      have h96 := h96.mono S198
      have h100 := h100.mono S198
      have h107 := h107.mono S198
      have h114 := h114.mono S198
      have h121 := h121.mono S198
      have h128 := h128.mono S198
      have h135 := h135.mono S198
      have h140 := S198 _ _ h140
      have hl141 := hl141.mono S198
      have h145 := S198 _ _ h145
      have hl146 := hl146.mono S198
      have h154 := h154.mono S198
      have h158 := h158.mono S198
      have h171 := S198 _ _ h171
      have hl172 := hl172.mono S198
      have r177 := r177.mono S198
      rw [rangeL_get0 hi197] at hL190
      have hk := hLs191 _ _ _ hL190
      obtain ⟨y187, he_⟩ : ∃ z_, z_ = 0 + (i193 : Int) := ⟨_, rfl⟩
      try rw [← he_] at hk
      rw [← he_]
      refine ⟨(by show 5 ≤ sizeLine; decide), fun p208 hp209 => ?_⟩
      have hl215 : RL (a := Str) F206 ([V.str ("plus" : Str), V.str ("less" : Str), V.str ("times" : Str), V.str ("most" : Str), V.str ("least" : Str)]) ([("plus" : Str), ("less" : Str), ("times" : Str), ("most" : Str), ("least" : Str)]) := RL.cons R.str (RL.cons R.str (RL.cons R.str (RL.cons R.str (RL.cons R.str RL.nil))))
      obtain ⟨F210, O211, S212, h213⟩ := O207.putE hp209 (.lst ([V.str ("plus" : Str), V.str ("less" : Str), V.str ("times" : Str), V.str ("most" : Str), V.str ("least" : Str)]))
      have h7 := h7.mono S212
      have h21 := S212 _ _ h21
      have hl22 := hl22.mono S212
      have h43 := h43.mono S212
      have h50 := h50.mono S212
      have h66 := h66.mono S212
      have h82 := h82.mono S212
      have h89 := h89.mono S212
      have h96 := h96.mono S212
      have h100 := h100.mono S212
      have h107 := h107.mono S212
      have h114 := h114.mono S212
      have h121 := h121.mono S212
      have h128 := h128.mono S212
      have h135 := h135.mono S212
      have h140 := S212 _ _ h140
      have hl141 := hl141.mono S212
      have h145 := S212 _ _ h145
      have hl146 := hl146.mono S212
      have h154 := h154.mono S212
      have h158 := h158.mono S212
      have h171 := S212 _ _ h171
      have hl172 := hl172.mono S212
      have r177 := r177.mono S212
      have r201 := r201.mono S212
      have hl203 := hl203.mono S212
      have S198 := S198.trans S212
      have hl215 := hl215.mono S212
      have h214 := R.lst (a := Str) h213 hl215
      refine ⟨_, rfl, _, _, _, _, _, rfl, (O211.pre1 0 rfl), hl203, wp_call hk (fun r216 er217 hk F218 H219 w221 g220 h222 hl223 => ?_) (fun n hn C H1 hC kp => hn C H1 hC (O211.kp1 kp 0 rfl))⟩
      have O224 := O211.call1 g220 0 rfl h222
      have S_ := g220.f
      have h7 := h7.mono S_
      have h21 := S_ _ _ h21
      have hl22 := hl22.mono S_
      have h43 := h43.mono S_
      have h50 := h50.mono S_
      have h66 := h66.mono S_
      have h82 := h82.mono S_
      have h89 := h89.mono S_
      have h96 := h96.mono S_
      have h100 := h100.mono S_
      have h107 := h107.mono S_
      have h114 := h114.mono S_
      have h121 := h121.mono S_
      have h128 := h128.mono S_
      have h135 := h135.mono S_
      have h140 := S_ _ _ h140
      have hl141 := hl141.mono S_
      have h145 := S_ _ _ h145
      have hl146 := hl146.mono S_
      have h154 := h154.mono S_
      have h158 := h158.mono S_
      have h171 := S_ _ _ h171
      have hl172 := hl172.mono S_
      have r177 := r177.mono S_
      have r201 := r201.mono S_
      have S198 := S198.trans S_
      have h214 := h214.mono S_
      obtain ⟨p225, w226, e227, h228, hl229⟩ := R.lst_ h214
      cases e227
      obtain ⟨y230, e231, hk⟩ := wp_opt hk
      obtain ⟨w232, e233, r234⟩ := hl229.atI e231
      obtain rfl := R.str_ r234
      refine ⟨_, _, _, _, rfl, rfl, (SqLF O224.s h228), e233, _, rfl, _, rfl, (by show 1 ≤ sizeLine; decide), fun p235 hp236 => ?_⟩
      obtain ⟨F237, O238, S239, h240⟩ := O224.putE hp236 (.tup [V.str ("own" : Str)])
      have h7 := h7.mono S239
      have h21 := S239 _ _ h21
      have hl22 := hl22.mono S239
      have h43 := h43.mono S239
      have h50 := h50.mono S239
      have h66 := h66.mono S239
      have h82 := h82.mono S239
      have h89 := h89.mono S239
      have h96 := h96.mono S239
      have h100 := h100.mono S239
      have h107 := h107.mono S239
      have h114 := h114.mono S239
      have h121 := h121.mono S239
      have h128 := h128.mono S239
      have h135 := h135.mono S239
      have h140 := S239 _ _ h140
      have hl141 := hl141.mono S239
      have h145 := S239 _ _ h145
      have hl146 := hl146.mono S239
      have h154 := h154.mono S239
      have h158 := h158.mono S239
      have h171 := S239 _ _ h171
      have hl172 := hl172.mono S239
      have r177 := r177.mono S239
      have r201 := r201.mono S239
      have S198 := S198.trans S239
      have h214 := h214.mono S239
      have hl223 := hl223.mono S239
      have h228 := S239 _ _ h228
      have hl229 := hl229.mono S239
      have h241 := R.of_nam h240
      refine ⟨(by show 3 ≤ sizeLine; decide), fun p242 hp243 => ?_⟩
      obtain ⟨F244, O245, S246, h247⟩ := O238.putE hp243 (.tup [V.str y230, v200, V.ref p235])
      have h7 := h7.mono S246
      have h21 := S246 _ _ h21
      have hl22 := hl22.mono S246
      have h43 := h43.mono S246
      have h50 := h50.mono S246
      have h66 := h66.mono S246
      have h82 := h82.mono S246
      have h89 := h89.mono S246
      have h96 := h96.mono S246
      have h100 := h100.mono S246
      have h107 := h107.mono S246
      have h114 := h114.mono S246
      have h121 := h121.mono S246
      have h128 := h128.mono S246
      have h135 := h135.mono S246
      have h140 := S246 _ _ h140
      have hl141 := hl141.mono S246
      have h145 := S246 _ _ h145
      have hl146 := hl146.mono S246
      have h154 := h154.mono S246
      have h158 := h158.mono S246
      have h171 := S246 _ _ h171
      have hl172 := hl172.mono S246
      have r177 := r177.mono S246
      have r201 := r201.mono S246
      have S198 := S198.trans S246
      have h214 := h214.mono S246
      have hl223 := hl223.mono S246
      have h228 := S246 _ _ h228
      have hl229 := hl229.mono S246
      have h241 := h241.mono S246
      have h248 : R (a := (T3 Str Sm Sm)) F244 (.ref p242) (T3.mk y230 st199.1 (Sm.nam ("own" : Str))) := R.t3 h247 R.str r201 h241
      refine ⟨_, rfl, (by show 2 ≤ sizeLine; decide), fun p249 hp250 => ?_⟩
      obtain ⟨F251, O252, S253, h254⟩ := O245.putE hp250 (.tup [V.str ("number" : Str), V.int (1 : Int)])
      have h7 := h7.mono S253
      have h21 := S253 _ _ h21
      have hl22 := hl22.mono S253
      have h43 := h43.mono S253
      have h50 := h50.mono S253
      have h66 := h66.mono S253
      have h82 := h82.mono S253
      have h89 := h89.mono S253
      have h96 := h96.mono S253
      have h100 := h100.mono S253
      have h107 := h107.mono S253
      have h114 := h114.mono S253
      have h121 := h121.mono S253
      have h128 := h128.mono S253
      have h135 := h135.mono S253
      have h140 := S253 _ _ h140
      have hl141 := hl141.mono S253
      have h145 := S253 _ _ h145
      have hl146 := hl146.mono S253
      have h154 := h154.mono S253
      have h158 := h158.mono S253
      have h171 := S253 _ _ h171
      have hl172 := hl172.mono S253
      have r177 := r177.mono S253
      have r201 := r201.mono S253
      have S198 := S198.trans S253
      have h214 := h214.mono S253
      have hl223 := hl223.mono S253
      have h228 := S253 _ _ h228
      have hl229 := hl229.mono S253
      have h241 := h241.mono S253
      have h248 := h248.mono S253
      have h255 : R (a := (Str × Int)) F251 (.ref p249) (("number" : Str), (1 : Int)) := R.t2 h254 R.str R.int
      refine ⟨_, rfl, (by show 3 ≤ sizeLine; decide), fun p256 hp257 => ?_⟩
      have h263 := (R.of_num h255)
      obtain ⟨F258, O259, S260, h261⟩ := O252.putE hp257 (.tup [V.str y230, V.ref p249, v200])
      have h7 := h7.mono S260
      have h21 := S260 _ _ h21
      have hl22 := hl22.mono S260
      have h43 := h43.mono S260
      have h50 := h50.mono S260
      have h66 := h66.mono S260
      have h82 := h82.mono S260
      have h89 := h89.mono S260
      have h96 := h96.mono S260
      have h100 := h100.mono S260
      have h107 := h107.mono S260
      have h114 := h114.mono S260
      have h121 := h121.mono S260
      have h128 := h128.mono S260
      have h135 := h135.mono S260
      have h140 := S260 _ _ h140
      have hl141 := hl141.mono S260
      have h145 := S260 _ _ h145
      have hl146 := hl146.mono S260
      have h154 := h154.mono S260
      have h158 := h158.mono S260
      have h171 := S260 _ _ h171
      have hl172 := hl172.mono S260
      have r177 := r177.mono S260
      have r201 := r201.mono S260
      have S198 := S198.trans S260
      have h214 := h214.mono S260
      have hl223 := hl223.mono S260
      have h228 := S260 _ _ h228
      have hl229 := hl229.mono S260
      have h241 := h241.mono S260
      have h248 := h248.mono S260
      have h255 := h255.mono S260
      have h263 := h263.mono S260
      have h262 : R (a := (T3 Str Sm Sm)) F258 (.ref p256) (T3.mk y230 (Sm.num (("number" : Str), (1 : Int)).1 (("number" : Str), (1 : Int)).2) st199.1) := R.t3 h261 R.str h263 r201
      refine ⟨(by show 2 ≤ sizeLine; decide), fun p264 hp265 => ?_⟩
      have hl271 : RL (a := Sm) F258 ([V.ref p242, V.ref p256]) ([(Sm.two (T3.mk y230 st199.1 (Sm.nam ("own" : Str))).a (T3.mk y230 st199.1 (Sm.nam ("own" : Str))).b (T3.mk y230 st199.1 (Sm.nam ("own" : Str))).c), (Sm.two (T3.mk y230 (Sm.num (("number" : Str), (1 : Int)).1 (("number" : Str), (1 : Int)).2) st199.1).a (T3.mk y230 (Sm.num (("number" : Str), (1 : Int)).1 (("number" : Str), (1 : Int)).2) st199.1).b (T3.mk y230 (Sm.num (("number" : Str), (1 : Int)).1 (("number" : Str), (1 : Int)).2) st199.1).c)]) := RL.cons (R.of_two h248) (RL.cons (R.of_two h262) RL.nil)
      obtain ⟨F266, O267, S268, h269⟩ := O259.putE hp265 (.lst ([V.ref p242, V.ref p256]))
      have h7 := h7.mono S268
      have h21 := S268 _ _ h21
      have hl22 := hl22.mono S268
      have h43 := h43.mono S268
      have h50 := h50.mono S268
      have h66 := h66.mono S268
      have h82 := h82.mono S268
      have h89 := h89.mono S268
      have h96 := h96.mono S268
      have h100 := h100.mono S268
      have h107 := h107.mono S268
      have h114 := h114.mono S268
      have h121 := h121.mono S268
      have h128 := h128.mono S268
      have h135 := h135.mono S268
      have h140 := S268 _ _ h140
      have hl141 := hl141.mono S268
      have h145 := S268 _ _ h145
      have hl146 := hl146.mono S268
      have h154 := h154.mono S268
      have h158 := h158.mono S268
      have h171 := S268 _ _ h171
      have hl172 := hl172.mono S268
      have r177 := r177.mono S268
      have r201 := r201.mono S268
      have S198 := S198.trans S268
      have h214 := h214.mono S268
      have hl223 := hl223.mono S268
      have h228 := S268 _ _ h228
      have hl229 := hl229.mono S268
      have h241 := h241.mono S268
      have h248 := h248.mono S268
      have h255 := h255.mono S268
      have h263 := h263.mono S268
      have h262 := h262.mono S268
      have hl271 := hl271.mono S268
      have h270 := R.lst (a := Sm) h269 hl271
      refine ⟨_, rfl, _, _, _, _, _, rfl, (O267.pre1 0 rfl), hl223, wp_call hk (fun r272 er273 hk F274 H275 w277 g276 h278 hl279 => ?_) (fun n hn C H1 hC kp => hn C H1 hC (O267.kp1 kp 0 rfl))⟩
      have O280 := O267.call1 g276 0 rfl h278
      have S_ := g276.f
      have h7 := h7.mono S_
      have h21 := S_ _ _ h21
      have hl22 := hl22.mono S_
      have h43 := h43.mono S_
      have h50 := h50.mono S_
      have h66 := h66.mono S_
      have h82 := h82.mono S_
      have h89 := h89.mono S_
      have h96 := h96.mono S_
      have h100 := h100.mono S_
      have h107 := h107.mono S_
      have h114 := h114.mono S_
      have h121 := h121.mono S_
      have h128 := h128.mono S_
      have h135 := h135.mono S_
      have h140 := S_ _ _ h140
      have hl141 := hl141.mono S_
      have h145 := S_ _ _ h145
      have hl146 := hl146.mono S_
      have h154 := h154.mono S_
      have h158 := h158.mono S_
      have h171 := S_ _ _ h171
      have hl172 := hl172.mono S_
      have r177 := r177.mono S_
      have r201 := r201.mono S_
      have S198 := S198.trans S_
      have h214 := h214.mono S_
      have h228 := S_ _ _ h228
      have hl229 := hl229.mono S_
      have h241 := h241.mono S_
      have h248 := h248.mono S_
      have h255 := h255.mono S_
      have h263 := h263.mono S_
      have h262 := h262.mono S_
      have h270 := h270.mono S_
      obtain ⟨p281, w282, e283, h284, hl285⟩ := R.lst_ h270
      cases e283
      obtain ⟨y286, e287, hk⟩ := wp_opt hk
      obtain ⟨w288, e289, r290⟩ := hl285.atI e287
      refine ⟨_, _, _, _, rfl, rfl, (SqLF O280.s h284), e289, ?_⟩
      exact ⟨F274, (y286, r272.2), w288, w277, some (V.int y187), some (V.str y230), rfl, S198, O280, r290, hl279, hk⟩
    rintro sg291 H292 ⟨F302, st294, v296, w298, t300, t301, rfl, S293, O303, r297, hl299, hL295⟩
    rw [rangeL_end0] at hL295
    have hk := hLd192 _ hL295
    have h7 := h7.mono S293
    have h21 := S293 _ _ h21
    have hl22 := hl22.mono S293
    have h43 := h43.mono S293
    have h50 := h50.mono S293
    have h66 := h66.mono S293
    have h82 := h82.mono S293
    have h89 := h89.mono S293
    have h96 := h96.mono S293
    have h100 := h100.mono S293
    have h107 := h107.mono S293
    have h114 := h114.mono S293
    have h121 := h121.mono S293
    have h128 := h128.mono S293
    have h135 := h135.mono S293
    have h140 := S293 _ _ h140
    have hl141 := hl141.mono S293
    have h145 := S293 _ _ h145
    have hl146 := hl146.mono S293
    have h154 := h154.mono S293
    have h158 := h158.mono S293
    have h171 := S293 _ _ h171
    have hl172 := hl172.mono S293
    have r177 := r177.mono S293
    refine ⟨_, rfl, ?_⟩
    exact hk _ _ w298 O303.g (O303.at 0 rfl) hl299 _ r297
abbrev s_law_spoilt : Stmt := top 15
theorem sc_law_spoilt : FnScope ["deck", "rule", "parts", "many", "at", "way", "part"] ["deck", "rule"] (defScope s_law_spoilt) := ⟨rfl, rfl, rfl, by decide +kernel, rfl, by decide +kernel, by decide +kernel⟩
def m_law_spoilt (x_deck : (List Int)) (x_rule : (T4 (List Sm) (List Sm) (List Sm) Sm)) : M ((T4 (List Sm) (List Sm) (List Sm) Sm) × (List Int)) :=
compS (fun (y20 : (List Sm)) (st37 : Unit) =>
.ok (some y20, ())) ([x_rule.a, x_rule.b, x_rule.c]) () >>= fun q66 =>
opt (atI q66.1 (0 : Int)) >>= fun y67 =>
m_law_take x_deck (3 : Int) >>= fun r75 =>
m_law_take r75.2 (8 : Int) >>= fun r84 =>
if r84.1 = (0 : Int) then (
opt (atI q66.1 r75.1) >>= fun y94 =>
popL y94 >>= fun (y102, _) =>
setI q66.1 r75.1 y94.dropLast >>= fun z112 =>
opt (atI z112 (0 : Int)) >>= fun y122 =>
opt (atI z112 (1 : Int)) >>= fun y132 =>
opt (atI z112 (2 : Int)) >>= fun y142 =>
.ok ((T4.mk y122 y132 y142 x_rule.d), r84.2))
else (
if r84.1 = (1 : Int) then (
opt (atI q66.1 r75.1) >>= fun y155 =>
m_law_leaf r84.2 ([("own" : Str)]) (1 : Int) >>= fun r171 =>
appL y155 r171.1 >>= fun _ =>
setI q66.1 r75.1 (y155 ++ [r171.1]) >>= fun z188 =>
opt (atI z188 (0 : Int)) >>= fun y198 =>
opt (atI z188 (1 : Int)) >>= fun y208 =>
opt (atI z188 (2 : Int)) >>= fun y218 =>
.ok ((T4.mk y198 y208 y218 x_rule.d), r171.2))
else (
if r84.1 = (2 : Int) then (
compS (fun (y240 : (List Sm)) (st257 : Unit) =>
chk (CRep ([(Sm.num (("number" : Str), (1 : Int)).1 (("number" : Str), (1 : Int)).2)]).length ((4 : Int) - (y67.length : Int))) >>= fun _ =>
chk (y240.length + (repL ((4 : Int) - (y67.length : Int)) ([(Sm.num (("number" : Str), (1 : Int)).1 (("number" : Str), (1 : Int)).2)])).length < 16777216) >>= fun _ =>
.ok (some (y240 ++ (repL ((4 : Int) - (y67.length : Int)) ([(Sm.num (("number" : Str), (1 : Int)).1 (("number" : Str), (1 : Int)).2)]))), ())) q66.1 () >>= fun q322 =>
opt (atI q322.1 (0 : Int)) >>= fun y333 =>
opt (atI q322.1 (1 : Int)) >>= fun y343 =>
opt (atI q322.1 (2 : Int)) >>= fun y353 =>
.ok ((T4.mk y333 y343 y353 x_rule.d), r84.2))
else (
if r84.1 = (3 : Int) then (
opt (atI ([([] : List Sm), ([] : List Sm), ([] : List Sm)]) (0 : Int)) >>= fun y407 =>
opt (atI ([([] : List Sm), ([] : List Sm), ([] : List Sm)]) (1 : Int)) >>= fun y417 =>
opt (atI ([([] : List Sm), ([] : List Sm), ([] : List Sm)]) (2 : Int)) >>= fun y427 =>
.ok ((T4.mk y407 y417 y427 x_rule.d), r84.2))
else (
if r84.1 = (4 : Int) then (
opt (atI q66.1 (0 : Int)) >>= fun y449 =>
opt (atI q66.1 (1 : Int)) >>= fun y459 =>
opt (atI q66.1 (2 : Int)) >>= fun y469 =>
m_law_bad_sum r84.2 (y67.length : Int) >>= fun r474 =>
.ok ((T4.mk y449 y459 y469 r474.1), r474.2))
else (
m_law_bad_sum r84.2 (y67.length : Int) >>= fun r492 =>
opt (atI q66.1 r75.1) >>= fun y503 =>
m_law_take r492.2 (y67.length : Int) >>= fun r511 =>
setI y503 r511.1 r492.1 >>= fun z522 =>
setI q66.1 r75.1 z522 >>= fun z528 =>
opt (atI z528 (0 : Int)) >>= fun y538 =>
opt (atI z528 (1 : Int)) >>= fun y548 =>
opt (atI z528 (2 : Int)) >>= fun y558 =>
.ok ((T4.mk y538 y548 y558 x_rule.d), r511.2))))))
def sp_law_spoilt (mg : Str → Option Value) : Sp := fun vs H Q E => ∃ (F : Hp) (a_deck : Addr) (w_deck : (List V)) (x_deck : (List Int)) (v_rule : V) (x_rule : (T4 (List Sm) (List Sm) (List Sm) Sm)), vs = [.ref a_deck, v_rule] ∧ Pre F [(a_deck, .lst w_deck)] H ∧ RL (a := Int) F w_deck x_deck ∧ R (a := (T4 (List Sm) (List Sm) (List Sm) Sm)) F v_rule x_rule ∧
  wp (m_law_spoilt x_deck x_rule) (fun r => ∀ (F' H' : Hp) (w0 : (List V)), Gr [a_deck] F H F' H' → H' a_deck = some (.lst w0) → RL (a := Int) F' w0 r.2 → ∀ v : V, R (a := (T4 (List Sm) (List Sm) (List Sm) Sm)) F' v r.1 → Q v H')
  (fun n => ∀ (C : Addr) (H' : Hp), mg (Str.ofString n) = some (.ref C) → Kp [a_deck] H H' → E (.ref C) none H')
set_option maxHeartbeats 2000000 in
theorem ok_law_spoilt (nb : Nb mg) (C_law_bad_sum : Ca P w K mg base "_law_bad_sum" 2 ["deck", "many"] (sp_law_bad_sum mg)) (C_law_leaf : Ca P w K mg base "_law_leaf" 2 ["deck", "leaves", "many"] (sp_law_leaf mg)) (C_law_take : Ca P w K mg base "_law_take" 1 ["deck", "many"] (sp_law_take mg)) (D : Df K mg "_law_spoilt" "_law_spoilt" s_law_spoilt ["deck", "rule"]) : Ca P w K mg base "_law_spoilt" 3 ["deck", "rule"] (sp_law_spoilt mg) := by
  obtain ⟨fa_law_bad_sum, fd_law_bad_sum, G_law_bad_sum, M_law_bad_sum, K_law_bad_sum, B_law_bad_sum⟩ := C_law_bad_sum.ex
  obtain ⟨fa_law_leaf, fd_law_leaf, G_law_leaf, M_law_leaf, K_law_leaf, B_law_leaf⟩ := C_law_leaf.ex
  obtain ⟨fa_law_take, fd_law_take, G_law_take, M_law_take, K_law_take, B_law_take⟩ := C_law_take.ex
  refine Ca.mk' D sc_law_spoilt (fun vs H Q E h => ?_) (fun q_ f_ cdv A outer s H vs Q E hr h => ?_)
  · obtain ⟨F, _, _, _, _, _, rfl, _⟩ := h
    rfl
  · obtain ⟨F, a_deck, w_deck, x_deck, v_rule, x_rule, rfl, P0, f_deck, f_rule, hk⟩ := h
    have nd := sc_law_spoilt.nd
    have hu64 := hr.units
    have hu128 := hu128_of hr
    have O := P0.start
    refine ⟨_, (pss_cons (ps_setLc (i := 2) (own := [("part", 6)]) (g := gName 6) (tt := _) rfl nd rfl rfl (sw_true rfl rfl rfl (by decide +kernel)) (piTupK (K := K) rfl (pe_slice (slTupK (K := K) rfl) (pv 1) po_none (po_some pe_int))) (blkOk_by (own := [("part", 6)]) (N := ["deck", "rule", "parts", "many", "at", "way", "part"]) (sc := defScope s_law_spoilt) (by decide +kernel)) (fun _ _ _ _ _ => (pg_name (i := 6) nd rfl (Or.inl rfl))) (fun _ _ _ _ _ => pts_nil) (fun _ _ _ _ _ => (pe_callTy (listOfK (K := K) rfl) (by rfl) nb.b_list (by decide +kernel) (pa_cons (pv 6) pa_nil))))
  (pss_cons (ps_set (i := 3) nd rfl (Or.inr rfl) (pe_callB call_lenT (by rfl) nb.b_len PySem.boot_len (pa_cons (pe_ix (ixListK (K := K) rfl) (pv 2) pe_int (fun _ _ => rfl)) pa_nil)))
  (pss_cons (ps_set (i := 4) nd rfl (Or.inl rfl) (pe_call G_law_take (hr.mono (by decide)) rfl M_law_take K_law_take B_law_take .nil (passes_call (takes_of rfl rfl rfl rfl) fun _ _ _ _ h => h) (pa_cons (pv 0) (pa_cons pe_int pa_nil))))
  (pss_cons (ps_set (i := 5) nd rfl (Or.inl rfl) (pe_call G_law_take (hr.mono (by decide)) rfl M_law_take K_law_take B_law_take .nil (passes_call (takes_of rfl rfl rfl rfl) fun _ _ _ _ h => h) (pa_cons (pv 0) (pa_cons pe_int pa_nil))))
  (pss_cons (ps_if (pt_cmpR (op_eqT Int hu64) (pv 5) pe_int (nomark _)) (pss_one (ps_expr (pe_bm0 PySem.F.plainAttrs_list PySem.F.slot_list_pop PySem.F.type_list_pop mt_pop (pe_ix (ixListK (K := K) rfl) (pv 2) (pv 4) (fun _ _ => rfl))))) (pss_one (ps_if (pt_cmpR (op_eqT Int hu64) (pv 5) pe_int (nomark _)) (pss_one (ps_expr (pe_bm PySem.F.plainAttrs_list PySem.F.slot_list_append PySem.F.type_list_append mt_append (pe_ix (ixListK (K := K) rfl) (pv 2) (pv 4) (fun _ _ => rfl)) (pa_cons (pe_call G_law_leaf (hr.mono (by decide)) rfl M_law_leaf K_law_leaf B_law_leaf .nil (passes_call (takes_of rfl rfl rfl rfl) fun _ _ _ _ h => h) (pa_cons (pv 0) (pa_cons (pe_lst (pa_cons pe_str pa_nil)) (pa_cons pe_int pa_nil)))) pa_nil)))) (pss_one (ps_if (pt_cmpR (op_eqT Int hu64) (pv 5) pe_int (nomark _)) (pss_one (ps_setLc (i := 2) (own := [("part", 6)]) (g := gName 6) (tt := _) rfl nd rfl rfl (sw_true rfl rfl rfl (by decide +kernel)) (piListK (K := K) rfl (pv 2)) (blkOk_by (own := [("part", 6)]) (N := ["deck", "rule", "parts", "many", "at", "way", "part"]) (sc := defScope s_law_spoilt) (by decide +kernel)) (fun _ _ _ _ _ => (pg_name (i := 6) nd rfl (Or.inl rfl))) (fun _ _ _ _ _ => pts_nil) (fun _ _ _ _ _ => (pe_op op_cat (pv 6) (pe_op op_rep (pe_lst (pa_cons (pe_tup (pa_cons pe_str (pa_cons pe_int pa_nil))) pa_nil)) (pe_op op_sub pe_int (pv 3))))))) (pss_one (ps_if (pt_cmpR (op_eqT Int hu64) (pv 5) pe_int (nomark _)) (pss_one (ps_set (i := 2) nd rfl (Or.inl rfl) (pe_lst (pa_cons (pe_lst pa_nil) (pa_cons (pe_lst pa_nil) (pa_cons (pe_lst pa_nil) pa_nil)))))) (pss_one (ps_if (pt_cmpR (op_eqT Int hu64) (pv 5) pe_int (nomark _)) (pss_one (ps_ret (pe_tup (pa_cons (pe_ix (ixListK (K := K) rfl) (pv 2) pe_int (fun _ _ => rfl)) (pa_cons (pe_ix (ixListK (K := K) rfl) (pv 2) pe_int (fun _ _ => rfl)) (pa_cons (pe_ix (ixListK (K := K) rfl) (pv 2) pe_int (fun _ _ => rfl)) (pa_cons (pe_call G_law_bad_sum (hr.mono (by decide)) rfl M_law_bad_sum K_law_bad_sum B_law_bad_sum .nil (passes_call (takes_of rfl rfl rfl rfl) fun _ _ _ _ h => h) (pa_cons (pv 0) (pa_cons (pv 3) pa_nil))) pa_nil))))))) (pss_one (ps_asg (pe_call G_law_bad_sum (hr.mono (by decide)) rfl M_law_bad_sum K_law_bad_sum B_law_bad_sum .nil (passes_call (takes_of rfl rfl rfl rfl) fun _ _ _ _ h => h) (pa_cons (pv 0) (pa_cons (pv 3) pa_nil))) (pg_sub (pe_ix (ixListK (K := K) rfl) (pv 2) (pv 4) (fun _ _ => rfl)) (pe_call G_law_take (hr.mono (by decide)) rfl M_law_take K_law_take B_law_take .nil (passes_call (takes_of rfl rfl rfl rfl) fun _ _ _ _ h => h) (pa_cons (pv 0) (pa_cons (pv 3) pa_nil))) set_list))))))))))))
  (pss_one (ps_ret (pe_tup (pa_cons (pe_ix (ixListK (K := K) rfl) (pv 2) pe_int (fun _ _ => rfl)) (pa_cons (pe_ix (ixListK (K := K) rfl) (pv 2) pe_int (fun _ _ => rfl)) (pa_cons (pe_ix (ixListK (K := K) rfl) (pv 2) pe_int (fun _ _ => rfl)) (pa_cons (pe_ix (ixTupK (K := K) rfl) (pv 1) pe_int (fun _ _ => rfl)) pa_nil)))))))))))), ?_⟩
    obtain ⟨p2, v5, v6, v7, v8, e3, h4, r9, r10, r11, r12⟩ := R.t4_ f_rule
    cases e3
    refine ⟨_, rfl, _, rfl, _, _, rfl, (SqTF O.s h4), (sl43 _ _ _ _), fun p13 hp14 => ?_⟩
    obtain ⟨F15, O16, S17, h18⟩ := O.putE hp14 (.tup [v5, v6, v7])
    have f_deck := f_deck.mono S17
    have f_rule := f_rule.mono S17
    have h4 := S17 _ _ h4
    have r9 := r9.mono S17
    have r10 := r10.mono S17
    have r11 := r11.mono S17
    have r12 := r12.mono S17
    have hl19 : RL (a := (List Sm)) F15 [v5, v6, v7] [x_rule.a, x_rule.b, x_rule.c] := RL.cons r9 (RL.cons r10 (RL.cons r11 RL.nil))
    obtain ⟨c25, L21, hL22, hLs23, hLd24⟩ := compS_L hk
    refine ⟨_, rfl, ⟨_, (SqTF O16.s h18)⟩, fun p26 hp27 => ?_⟩
    have z54 := O16.was hp27
    refine lc_tup (K := K) (xs := [v5, v6, v7]) (fun i H_ => ∃ (F_ : Hp) (st : Unit) (acc : List (List Sm)) (ps_ : List LCV), Same F15 F_ ∧ Ow _ F_ ([(a_deck, .lst w_deck)] ++ llC p26 ps_) H_ ∧ LLR F_ ps_ acc ∧ (ps_.map fun c => V.ref c.1).length ≤ i ∧ (∀ c ∈ ps_, H c.1 = none) ∧ L21 (List.drop i ([x_rule.a, x_rule.b, x_rule.c])) acc st) ⟨F15, (), [], [], Same.refl _, Ow.llNew (S := [(a_deck, .lst w_deck)]) (O16.new hp27), .nil, Nat.zero_le _, (fun _ z => nomatch z), hL22⟩ (fun i_ H_ _ hp_ => ?_) ?_ ?_
    · obtain ⟨_, _, _, _, hS_, hO_, _⟩ := hp_
      exact SqTF hO_.s (hS_ _ _ h18)
    · rintro i28 x29 H30 hi31 ⟨F36, st37, acc33, wa34, S38, O40, hl39, la35, zs41, hL22⟩
      have f_deck := f_deck.mono S38
      have f_rule := f_rule.mono S38
      have h4 := S38 _ _ h4
      have r9 := r9.mono S38
      have r10 := r10.mono S38
      have r11 := r11.mono S38
      have r12 := r12.mono S38
      have h18 := S38 _ _ h18
      have hl19 := hl19.mono S38
      obtain ⟨y20, e42, r43⟩ := RL.got hl19 hi31
      rw [drop_at e42] at hL22
      have hk := hLs23 _ _ _ _ hL22
      refine ⟨rfl, ?_⟩
      obtain ⟨p44, w45, e46, h47, hl48⟩ := R.lst_ r43
      cases e46
      refine ⟨_, rfl, _, _, rfl, (.inl (SqLF O40.s h47)), fun p49 hp50 => ?_⟩
      have hl52 : RL (a := Sm) F36 w45 y20 := hl48
      have z53 := O40.was hp50
      have O51 := O40.new (o := .lst w45) hp50
      refine ⟨_, (Ow.llTop (S := [(p49, .lst w45), (a_deck, .lst w_deck)]) (p := p26) (ps := wa34) O51), (comp_len la35 hi31 hl19.len c25), ?_⟩
      exact ⟨F36, (), acc33 ++ [y20], wa34 ++ [(p49, w45)], S38, Ow.llPush (S := [(a_deck, .lst w_deck)]) (p := p26) (ps := wa34) O51, LLR.snoc hl39 hl52 _, by rw [List.map_append, List.length_append]; exact Nat.succ_le_succ la35, zs_snoc zs41 z53, hk⟩
    rintro H55 ⟨F56, st57, acc58, wa59, S60, O61, hl62, la63, zs65, hL64⟩
    rw [drop_end hl19.len] at hL64
    have hk := hLd24 _ _ hL64
    have f_deck := f_deck.mono S60
    have f_rule := f_rule.mono S60
    have h4 := S60 _ _ h4
    have r9 := r9.mono S60
    have r10 := r10.mono S60
    have r11 := r11.mono S60
    have r12 := r12.mono S60
    have h18 := S60 _ _ h18
    have hl19 := hl19.mono S60
    obtain ⟨y67, e68, hk⟩ := wp_opt hk
    obtain ⟨j69, c70, e71, hj72, hl73, hx74⟩ := LLR.atI hl62 e68
    refine ⟨_, rfl, _, _, _, _, rfl, rfl, (SqL.of (Ow.llTop (S := [(a_deck, .lst w_deck)]) (p := p26) (ps := wa59) O61)), e71, _, _, _, rfl, (.inl (Ow.llAt (S := [(a_deck, .lst w_deck)]) (p := p26) (ps := wa59) O61 hj72)), hl73.len, _, rfl, _, _, _, _, _, rfl, (O61.pre1 0 rfl), f_deck, wp_call hk (fun r75 er76 hk F77 H78 w80 g79 h81 hl82 => ?_) (fun n hn C H1 hC kp => hn C H1 hC (O61.kp1 kp 0 rfl))⟩
    have O83 := O61.call1 g79 0 rfl h81
    have S_ := g79.f
    have f_rule := f_rule.mono S_
    have h4 := S_ _ _ h4
    have r9 := r9.mono S_
    have r10 := r10.mono S_
    have r11 := r11.mono S_
    have r12 := r12.mono S_
    have h18 := S_ _ _ h18
    have hl19 := hl19.mono S_
    have hl62 := hl62.mono S_
    have hl73 := hl73.mono S_
    refine ⟨_, rfl, _, _, _, _, _, rfl, (O83.pre1 0 rfl), hl82, wp_call hk (fun r84 er85 hk F86 H87 w89 g88 h90 hl91 => ?_) (fun n hn C H1 hC kp => hn C H1 hC (O83.kp1 kp 0 rfl))⟩
    have O92 := O83.call1 g88 0 rfl h90
    have S_ := g88.f
    have f_rule := f_rule.mono S_
    have h4 := S_ _ _ h4
    have r9 := r9.mono S_
    have r10 := r10.mono S_
    have r11 := r11.mono S_
    have r12 := r12.mono S_
    have h18 := S_ _ _ h18
    have hl19 := hl19.mono S_
    have hl62 := hl62.mono S_
    have hl73 := hl73.mono S_
    refine ⟨_, rfl, _, _, R.int, R.int, _, rfl, ?_⟩
    refine iteD (fun q93 => ?_) (fun q93 => ?_)
    · have hk := wp_if hk q93
      obtain ⟨y94, e95, hk⟩ := wp_opt hk
      obtain ⟨j96, c97, e98, hj99, hl100, hx101⟩ := LLR.atI hl62 e95
      obtain ⟨y102, e103, hk⟩ := wp_popL hk
      obtain ⟨w104, e105, r106⟩ := RL.last hl100 e103
      obtain ⟨j110, e111, hk⟩ := wp_setI hk
      cases (hx101.symm.trans e111)
      refine ⟨_, rfl, _, rfl, _, _, _, _, rfl, rfl, (SqL.of (Ow.llTop (S := [(a_deck, .lst w89)]) (p := p26) (ps := wa59) O92)), e98, (.inl ⟨rfl, _, SqL.of (Ow.llAt (S := [(a_deck, .lst w89)]) (p := p26) (ps := wa59) O92 hj99)⟩), _, _, _, rfl, rfl, (Ow.llAt (S := [(a_deck, .lst w89)]) (p := p26) (ps := wa59) O92 hj99), e105, ?_⟩
      have O107 := Ow.llSet (S := [(a_deck, .lst w89)]) (p := p26) (ps := wa59) O92 hj99 c97.2.dropLast
      have hl108 := LLR.set hl62 (RL.dropLast hl100) c97.1 j96
      have zs109 := zs_set zs65 hj99 c97.2.dropLast
      obtain ⟨F113, O114, S115, h116⟩ := Ow.llFrz (S := [(a_deck, .lst w89)]) (p := p26) (ps := (wa59.set j96 (c97.1, c97.2.dropLast))) O107 z54 zs109 hl108
      have f_rule := f_rule.mono S115
      have h4 := S115 _ _ h4
      have r9 := r9.mono S115
      have r10 := r10.mono S115
      have r11 := r11.mono S115
      have r12 := r12.mono S115
      have h18 := S115 _ _ h18
      have hl19 := hl19.mono S115
      have hl73 := hl73.mono S115
      have hl91 := hl91.mono S115
      have r106 := r106.mono S115
      obtain ⟨p117, w118, e119, h120, hl121⟩ := R.lst_ h116
      cases e119
      obtain ⟨y122, e123, hk⟩ := wp_opt hk
      obtain ⟨w124, e125, r126⟩ := hl121.atI e123
      obtain ⟨p127, w128, e129, h130, hl131⟩ := R.lst_ h116
      cases e129
      obtain ⟨y132, e133, hk⟩ := wp_opt hk
      obtain ⟨w134, e135, r136⟩ := hl131.atI e133
      obtain ⟨p137, w138, e139, h140, hl141⟩ := R.lst_ h116
      cases e139
      obtain ⟨y142, e143, hk⟩ := wp_opt hk
      obtain ⟨w144, e145, r146⟩ := hl141.atI e143
      refine ⟨_, rfl, _, _, _, _, rfl, rfl, (SqLF O114.s h120), e125, _, rfl, _, _, _, _, rfl, rfl, (SqLF O114.s h130), e135, _, rfl, _, _, _, _, rfl, rfl, (SqLF O114.s h140), e145, _, rfl, _, _, _, _, rfl, rfl, (SqTF O114.s h4), rfl, (by show 4 ≤ sizeLine; decide), fun p147 hp148 => ?_⟩
      obtain ⟨F149, O150, S151, h152⟩ := O114.putE hp148 (.tup [w124, w134, w144, v8])
      have f_rule := f_rule.mono S151
      have h4 := S151 _ _ h4
      have r9 := r9.mono S151
      have r10 := r10.mono S151
      have r11 := r11.mono S151
      have r12 := r12.mono S151
      have h18 := S151 _ _ h18
      have hl19 := hl19.mono S151
      have hl73 := hl73.mono S151
      have hl91 := hl91.mono S151
      have r106 := r106.mono S151
      have h116 := h116.mono S151
      have h120 := S151 _ _ h120
      have hl121 := hl121.mono S151
      have r126 := r126.mono S151
      have h130 := S151 _ _ h130
      have hl131 := hl131.mono S151
      have r136 := r136.mono S151
      have h140 := S151 _ _ h140
      have hl141 := hl141.mono S151
      have r146 := r146.mono S151
      have h153 : R (a := (T4 (List Sm) (List Sm) (List Sm) Sm)) F149 (.ref p147) (T4.mk y122 y132 y142 x_rule.d) := R.t4 h152 r126 r136 r146 r12
      exact hk _ _ w89 O150.g (O150.at 0 rfl) hl91 _ h153
    · have hk := wp_el hk q93
      refine ⟨_, rfl, _, _, R.int, R.int, _, rfl, ?_⟩
      refine iteD (fun q154 => ?_) (fun q154 => ?_)
      · have hk := wp_if hk q154
        obtain ⟨y155, e156, hk⟩ := wp_opt hk
        obtain ⟨j157, c158, e159, hj160, hl161, hx162⟩ := LLR.atI hl62 e156
        refine ⟨_, rfl, _, rfl, _, _, _, _, rfl, rfl, (SqL.of (Ow.llTop (S := [(a_deck, .lst w89)]) (p := p26) (ps := wa59) O92)), e159, (.inl ⟨rfl, _, SqL.of (Ow.llAt (S := [(a_deck, .lst w89)]) (p := p26) (ps := wa59) O92 hj160)⟩), _, rfl, (by show 1 ≤ sizeLine; decide), fun p163 hp164 => ?_⟩
        have hl170 : RL (a := Str) F86 ([V.str ("own" : Str)]) ([("own" : Str)]) := RL.cons R.str RL.nil
        obtain ⟨F165, O166, S167, h168⟩ := O92.putE hp164 (.lst ([V.str ("own" : Str)]))
        have f_rule := f_rule.mono S167
        have h4 := S167 _ _ h4
        have r9 := r9.mono S167
        have r10 := r10.mono S167
        have r11 := r11.mono S167
        have r12 := r12.mono S167
        have h18 := S167 _ _ h18
        have hl19 := hl19.mono S167
        have hl62 := hl62.mono S167
        have hl73 := hl73.mono S167
        have hl91 := hl91.mono S167
        have hl161 := hl161.mono S167
        have hl170 := hl170.mono S167
        have h169 := R.lst (a := Str) h168 hl170
        refine ⟨_, _, _, _, _, _, _, rfl, (O166.pre1 0 rfl), hl91, h169, wp_call hk (fun r171 er172 hk F173 H174 w176 g175 h177 hl178 v179 r180 => ?_) (fun n hn C H1 hC kp => hn C H1 hC (O166.kp1 kp 0 rfl))⟩
        have O181 := O166.call1 g175 0 rfl h177
        have S_ := g175.f
        have f_rule := f_rule.mono S_
        have h4 := S_ _ _ h4
        have r9 := r9.mono S_
        have r10 := r10.mono S_
        have r11 := r11.mono S_
        have r12 := r12.mono S_
        have h18 := S_ _ _ h18
        have hl19 := hl19.mono S_
        have hl62 := hl62.mono S_
        have hl73 := hl73.mono S_
        have hl161 := hl161.mono S_
        have h169 := h169.mono S_
        obtain ⟨c182, hk⟩ := wp_appL hk
        obtain ⟨j186, e187, hk⟩ := wp_setI hk
        cases (hx162.symm.trans e187)
        refine ⟨_, _, _, rfl, rfl, (Ow.llAt (S := [(a_deck, .lst w176)]) (p := p26) (ps := wa59) O181 hj160), (by rw [hl161.len]; exact c182), ?_⟩
        have O183 := Ow.llSet (S := [(a_deck, .lst w176)]) (p := p26) (ps := wa59) O181 hj160 (c158.2 ++ [v179])
        have hl184 := LLR.set hl62 (RL.snoc hl161 r180) c158.1 j157
        have zs185 := zs_set zs65 hj160 (c158.2 ++ [v179])
        obtain ⟨F189, O190, S191, h192⟩ := Ow.llFrz (S := [(a_deck, .lst w176)]) (p := p26) (ps := (wa59.set j157 (c158.1, c158.2 ++ [v179]))) O183 z54 zs185 hl184
        have f_rule := f_rule.mono S191
        have h4 := S191 _ _ h4
        have r9 := r9.mono S191
        have r10 := r10.mono S191
        have r11 := r11.mono S191
        have r12 := r12.mono S191
        have h18 := S191 _ _ h18
        have hl19 := hl19.mono S191
        have hl73 := hl73.mono S191
        have h169 := h169.mono S191
        have hl178 := hl178.mono S191
        have r180 := r180.mono S191
        obtain ⟨p193, w194, e195, h196, hl197⟩ := R.lst_ h192
        cases e195
        obtain ⟨y198, e199, hk⟩ := wp_opt hk
        obtain ⟨w200, e201, r202⟩ := hl197.atI e199
        obtain ⟨p203, w204, e205, h206, hl207⟩ := R.lst_ h192
        cases e205
        obtain ⟨y208, e209, hk⟩ := wp_opt hk
        obtain ⟨w210, e211, r212⟩ := hl207.atI e209
        obtain ⟨p213, w214, e215, h216, hl217⟩ := R.lst_ h192
        cases e215
        obtain ⟨y218, e219, hk⟩ := wp_opt hk
        obtain ⟨w220, e221, r222⟩ := hl217.atI e219
        refine ⟨_, rfl, _, _, _, _, rfl, rfl, (SqLF O190.s h196), e201, _, rfl, _, _, _, _, rfl, rfl, (SqLF O190.s h206), e211, _, rfl, _, _, _, _, rfl, rfl, (SqLF O190.s h216), e221, _, rfl, _, _, _, _, rfl, rfl, (SqTF O190.s h4), rfl, (by show 4 ≤ sizeLine; decide), fun p223 hp224 => ?_⟩
        obtain ⟨F225, O226, S227, h228⟩ := O190.putE hp224 (.tup [w200, w210, w220, v8])
        have f_rule := f_rule.mono S227
        have h4 := S227 _ _ h4
        have r9 := r9.mono S227
        have r10 := r10.mono S227
        have r11 := r11.mono S227
        have r12 := r12.mono S227
        have h18 := S227 _ _ h18
        have hl19 := hl19.mono S227
        have hl73 := hl73.mono S227
        have h169 := h169.mono S227
        have hl178 := hl178.mono S227
        have r180 := r180.mono S227
        have h192 := h192.mono S227
        have h196 := S227 _ _ h196
        have hl197 := hl197.mono S227
        have r202 := r202.mono S227
        have h206 := S227 _ _ h206
        have hl207 := hl207.mono S227
        have r212 := r212.mono S227
        have h216 := S227 _ _ h216
        have hl217 := hl217.mono S227
        have r222 := r222.mono S227
        have h229 : R (a := (T4 (List Sm) (List Sm) (List Sm) Sm)) F225 (.ref p223) (T4.mk y198 y208 y218 x_rule.d) := R.t4 h228 r202 r212 r222 r12
        exact hk _ _ w176 O226.g (O226.at 0 rfl) hl178 _ h229
      · have hk := wp_el hk q154
        refine ⟨_, rfl, _, _, R.int, R.int, _, rfl, ?_⟩
        refine iteD (fun q230 => ?_) (fun q230 => ?_)
        · have hk := wp_if hk q230
          obtain ⟨F231, O232, S233, h234⟩ := Ow.llFrz (S := [(a_deck, .lst w89)]) (p := p26) (ps := wa59) O92 z54 zs65 hl62
          have f_rule := f_rule.mono S233
          have h4 := S233 _ _ h4
          have r9 := r9.mono S233
          have r10 := r10.mono S233
          have r11 := r11.mono S233
          have r12 := r12.mono S233
          have h18 := S233 _ _ h18
          have hl19 := hl19.mono S233
          have hl73 := hl73.mono S233
          have hl91 := hl91.mono S233
          obtain ⟨p235, w236, e237, h238, hl239⟩ := R.lst_ h234
          cases e237
          obtain ⟨c245, L241, hL242, hLs243, hLd244⟩ := compS_L hk
          refine ⟨_, rfl, _, rfl, ⟨_, (SqLF O232.s h238)⟩, fun p246 hp247 => ?_⟩
          have z311 := O232.was hp247
          refine lc_list (K := K) (xs := w236) (fun i H => ∃ (F_ : Hp) (st : Unit) (acc : List (List Sm)) (wa : List V), Same F231 F_ ∧ Ow _ F_ [(p246, .lst wa), (a_deck, .lst w89)] H ∧ RL F_ wa acc ∧ wa.length ≤ i ∧ L241 (List.drop i acc58) acc st) ⟨F231, (), [], [], Same.refl _, O232.new hp247, RL.nil, Nat.zero_le _, hL242⟩ (fun i_ H_ _ hp_ => ?_) ?_ ?_
          · obtain ⟨_, _, _, _, hS_, hO_, _⟩ := hp_
            exact SqLF hO_.s (hS_ _ _ h238)
          · rintro i248 x249 H250 hi251 ⟨F256, st257, acc253, wa254, S258, O260, hl259, la255, hL242⟩
            have f_rule := f_rule.mono S258
            have h4 := S258 _ _ h4
            have r9 := r9.mono S258
            have r10 := r10.mono S258
            have r11 := r11.mono S258
            have r12 := r12.mono S258
            have h18 := S258 _ _ h18
            have hl19 := hl19.mono S258
            have hl73 := hl73.mono S258
            have hl91 := hl91.mono S258
            have h234 := h234.mono S258
            have h238 := S258 _ _ h238
            have hl239 := hl239.mono S258
            obtain ⟨y240, e261, r262⟩ := RL.got hl239 hi251
            rw [drop_at e261] at hL242
            have hk := hLs243 _ _ _ _ hL242
            refine ⟨rfl, ?_⟩
            refine ⟨_, rfl, (by show 2 ≤ sizeLine; decide), fun p263 hp264 => ?_⟩
            obtain ⟨F265, O266, S267, h268⟩ := O260.putE hp264 (.tup [V.str ("number" : Str), V.int (1 : Int)])
            have f_rule := f_rule.mono S267
            have h4 := S267 _ _ h4
            have r9 := r9.mono S267
            have r10 := r10.mono S267
            have r11 := r11.mono S267
            have r12 := r12.mono S267
            have h18 := S267 _ _ h18
            have hl19 := hl19.mono S267
            have hl73 := hl73.mono S267
            have hl91 := hl91.mono S267
            have h234 := h234.mono S267
            have h238 := S267 _ _ h238
            have hl239 := hl239.mono S267
            have S258 := S258.trans S267
            have hl259 := hl259.mono S267
            have r262 := r262.mono S267
            have h269 : R (a := (Str × Int)) F265 (.ref p263) (("number" : Str), (1 : Int)) := R.t2 h268 R.str R.int
            refine ⟨(by show 1 ≤ sizeLine; decide), fun p270 hp271 => ?_⟩
            have hl277 : RL (a := Sm) F265 ([V.ref p263]) ([(Sm.num (("number" : Str), (1 : Int)).1 (("number" : Str), (1 : Int)).2)]) := RL.cons (R.of_num h269) RL.nil
            obtain ⟨F272, O273, S274, h275⟩ := O266.putE hp271 (.lst ([V.ref p263]))
            have f_rule := f_rule.mono S274
            have h4 := S274 _ _ h4
            have r9 := r9.mono S274
            have r10 := r10.mono S274
            have r11 := r11.mono S274
            have r12 := r12.mono S274
            have h18 := S274 _ _ h18
            have hl19 := hl19.mono S274
            have hl73 := hl73.mono S274
            have hl91 := hl91.mono S274
            have h234 := h234.mono S274
            have h238 := S274 _ _ h238
            have hl239 := hl239.mono S274
            have S258 := S258.trans S274
            have hl259 := hl259.mono S274
            have r262 := r262.mono S274
            have h269 := h269.mono S274
            have hl277 := hl277.mono S274
            have h276 := R.lst (a := Sm) h275 hl277
            obtain ⟨p278, w279, e280, h281, hl282⟩ := R.lst_ h276
            cases e280
            obtain ⟨c283, hk⟩ := wp_chk hk
            refine ⟨_, rfl, _, _, rfl, rfl, _, _, _, rfl, rfl, (O273.s _ _ h281), c283.1, c283.2.1, (by rw [hl282.len]; exact le_line c283.2.2), fun p284 hp285 => ?_⟩
            have hl291 : RL (a := Sm) F272 (repL ((4 : Int) - (y67.length : Int)) w279) (repL ((4 : Int) - (y67.length : Int)) ([(Sm.num (("number" : Str), (1 : Int)).1 (("number" : Str), (1 : Int)).2)])) := RL.rep hl282 ((4 : Int) - (y67.length : Int))
            obtain ⟨F286, O287, S288, h289⟩ := O273.putE hp285 (.lst (repL ((4 : Int) - (y67.length : Int)) w279))
            have f_rule := f_rule.mono S288
            have h4 := S288 _ _ h4
            have r9 := r9.mono S288
            have r10 := r10.mono S288
            have r11 := r11.mono S288
            have r12 := r12.mono S288
            have h18 := S288 _ _ h18
            have hl19 := hl19.mono S288
            have hl73 := hl73.mono S288
            have hl91 := hl91.mono S288
            have h234 := h234.mono S288
            have h238 := S288 _ _ h238
            have hl239 := hl239.mono S288
            have S258 := S258.trans S288
            have hl259 := hl259.mono S288
            have r262 := r262.mono S288
            have h269 := h269.mono S288
            have h276 := h276.mono S288
            have h281 := S288 _ _ h281
            have hl282 := hl282.mono S288
            have hl291 := hl291.mono S288
            have h290 := R.lst (a := Sm) h289 hl291
            obtain ⟨p292, w293, e294, h295, hl296⟩ := R.lst_ r262
            cases e294
            obtain ⟨p297, w298, e299, h300, hl301⟩ := R.lst_ h290
            cases e299
            obtain ⟨c302, hk⟩ := wp_chk hk
            refine ⟨_, _, _, _, rfl, rfl, (O287.s _ _ h295), (O287.s _ _ h300), (by rw [hl296.len, hl301.len]; exact le_line c302), fun p303 hp304 => ?_⟩
            have hl310 : RL (a := Sm) F286 (w293 ++ w298) (y240 ++ (repL ((4 : Int) - (y67.length : Int)) ([(Sm.num (("number" : Str), (1 : Int)).1 (("number" : Str), (1 : Int)).2)]))) := RL.app hl296 hl301
            obtain ⟨F305, O306, S307, h308⟩ := O287.putE hp304 (.lst (w293 ++ w298))
            have f_rule := f_rule.mono S307
            have h4 := S307 _ _ h4
            have r9 := r9.mono S307
            have r10 := r10.mono S307
            have r11 := r11.mono S307
            have r12 := r12.mono S307
            have h18 := S307 _ _ h18
            have hl19 := hl19.mono S307
            have hl73 := hl73.mono S307
            have hl91 := hl91.mono S307
            have h234 := h234.mono S307
            have h238 := S307 _ _ h238
            have hl239 := hl239.mono S307
            have S258 := S258.trans S307
            have hl259 := hl259.mono S307
            have r262 := r262.mono S307
            have h269 := h269.mono S307
            have h276 := h276.mono S307
            have h281 := S307 _ _ h281
            have hl282 := hl282.mono S307
            have h290 := h290.mono S307
            have h295 := S307 _ _ h295
            have hl296 := hl296.mono S307
            have h300 := S307 _ _ h300
            have hl301 := hl301.mono S307
            have hl310 := hl310.mono S307
            have h309 := R.lst (a := Sm) h308 hl310
            refine ⟨_, (O306.at 0 rfl), (comp_len la255 hi251 hl239.len c245), ?_⟩
            exact ⟨F305, (), acc253 ++ [(y240 ++ (repL ((4 : Int) - (y67.length : Int)) ([(Sm.num (("number" : Str), (1 : Int)).1 (("number" : Str), (1 : Int)).2)])))], wa254 ++ [V.ref p303], S258, O306.set 0 (.lst (wa254 ++ [V.ref p303])) rfl, RL.snoc hl259 h309, by rw [List.length_append]; exact Nat.succ_le_succ la255, hk⟩
          rintro H312 ⟨F313, st314, acc315, wa316, S317, O318, hl319, la320, hL321⟩
          rw [drop_end hl239.len] at hL321
          have hk := hLd244 _ _ hL321
          have f_rule := f_rule.mono S317
          have h4 := S317 _ _ h4
          have r9 := r9.mono S317
          have r10 := r10.mono S317
          have r11 := r11.mono S317
          have r12 := r12.mono S317
          have h18 := S317 _ _ h18
          have hl19 := hl19.mono S317
          have hl73 := hl73.mono S317
          have hl91 := hl91.mono S317
          have h234 := h234.mono S317
          have h238 := S317 _ _ h238
          have hl239 := hl239.mono S317
          obtain ⟨F323, O324, S325, h326⟩ := O318.frzE 0 rfl z311
          have f_rule := f_rule.mono S325
          have h4 := S325 _ _ h4
          have r9 := r9.mono S325
          have r10 := r10.mono S325
          have r11 := r11.mono S325
          have r12 := r12.mono S325
          have h18 := S325 _ _ h18
          have hl19 := hl19.mono S325
          have hl73 := hl73.mono S325
          have hl91 := hl91.mono S325
          have h234 := h234.mono S325
          have h238 := S325 _ _ h238
          have hl239 := hl239.mono S325
          have hl319 := hl319.mono S325
          have h327 := R.lst (a := (List Sm)) h326 hl319
          obtain ⟨p328, w329, e330, h331, hl332⟩ := R.lst_ h327
          cases e330
          obtain ⟨y333, e334, hk⟩ := wp_opt hk
          obtain ⟨w335, e336, r337⟩ := hl332.atI e334
          obtain ⟨p338, w339, e340, h341, hl342⟩ := R.lst_ h327
          cases e340
          obtain ⟨y343, e344, hk⟩ := wp_opt hk
          obtain ⟨w345, e346, r347⟩ := hl342.atI e344
          obtain ⟨p348, w349, e350, h351, hl352⟩ := R.lst_ h327
          cases e350
          obtain ⟨y353, e354, hk⟩ := wp_opt hk
          obtain ⟨w355, e356, r357⟩ := hl352.atI e354
          refine ⟨_, rfl, _, _, _, _, rfl, rfl, (SqLF O324.s h331), e336, _, rfl, _, _, _, _, rfl, rfl, (SqLF O324.s h341), e346, _, rfl, _, _, _, _, rfl, rfl, (SqLF O324.s h351), e356, _, rfl, _, _, _, _, rfl, rfl, (SqTF O324.s h4), rfl, (by show 4 ≤ sizeLine; decide), fun p358 hp359 => ?_⟩
          obtain ⟨F360, O361, S362, h363⟩ := O324.putE hp359 (.tup [w335, w345, w355, v8])
          have f_rule := f_rule.mono S362
          have h4 := S362 _ _ h4
          have r9 := r9.mono S362
          have r10 := r10.mono S362
          have r11 := r11.mono S362
          have r12 := r12.mono S362
          have h18 := S362 _ _ h18
          have hl19 := hl19.mono S362
          have hl73 := hl73.mono S362
          have hl91 := hl91.mono S362
          have h234 := h234.mono S362
          have h238 := S362 _ _ h238
          have hl239 := hl239.mono S362
          have h327 := h327.mono S362
          have h331 := S362 _ _ h331
          have hl332 := hl332.mono S362
          have r337 := r337.mono S362
          have h341 := S362 _ _ h341
          have hl342 := hl342.mono S362
          have r347 := r347.mono S362
          have h351 := S362 _ _ h351
          have hl352 := hl352.mono S362
          have r357 := r357.mono S362
          have h364 : R (a := (T4 (List Sm) (List Sm) (List Sm) Sm)) F360 (.ref p358) (T4.mk y333 y343 y353 x_rule.d) := R.t4 h363 r337 r347 r357 r12
          exact hk _ _ w89 O361.g (O361.at 0 rfl) hl91 _ h364
        · have hk := wp_el hk q230
          refine ⟨_, rfl, _, _, R.int, R.int, _, rfl, ?_⟩
          refine iteD (fun q365 => ?_) (fun q365 => ?_)
          · have hk := wp_if hk q365
            obtain ⟨F366, O367, S368, h369⟩ := Ow.llFrz (S := [(a_deck, .lst w89)]) (p := p26) (ps := wa59) O92 z54 zs65 hl62
            have f_rule := f_rule.mono S368
            have h4 := S368 _ _ h4
            have r9 := r9.mono S368
            have r10 := r10.mono S368
            have r11 := r11.mono S368
            have r12 := r12.mono S368
            have h18 := S368 _ _ h18
            have hl19 := hl19.mono S368
            have hl73 := hl73.mono S368
            have hl91 := hl91.mono S368
            refine ⟨(by show 0 ≤ sizeLine; decide), fun p370 hp371 => ?_⟩
            have hl377 : RL (a := Sm) F366 ([]) ([] : List Sm) := RL.nil
            obtain ⟨F372, O373, S374, h375⟩ := O367.putE hp371 (.lst ([]))
            have f_rule := f_rule.mono S374
            have h4 := S374 _ _ h4
            have r9 := r9.mono S374
            have r10 := r10.mono S374
            have r11 := r11.mono S374
            have r12 := r12.mono S374
            have h18 := S374 _ _ h18
            have hl19 := hl19.mono S374
            have hl73 := hl73.mono S374
            have hl91 := hl91.mono S374
            have h369 := h369.mono S374
            have hl377 := hl377.mono S374
            have h376 := R.lst (a := Sm) h375 hl377
            refine ⟨(by show 0 ≤ sizeLine; decide), fun p378 hp379 => ?_⟩
            have hl385 : RL (a := Sm) F372 ([]) ([] : List Sm) := RL.nil
            obtain ⟨F380, O381, S382, h383⟩ := O373.putE hp379 (.lst ([]))
            have f_rule := f_rule.mono S382
            have h4 := S382 _ _ h4
            have r9 := r9.mono S382
            have r10 := r10.mono S382
            have r11 := r11.mono S382
            have r12 := r12.mono S382
            have h18 := S382 _ _ h18
            have hl19 := hl19.mono S382
            have hl73 := hl73.mono S382
            have hl91 := hl91.mono S382
            have h369 := h369.mono S382
            have h376 := h376.mono S382
            have hl385 := hl385.mono S382
            have h384 := R.lst (a := Sm) h383 hl385
            refine ⟨(by show 0 ≤ sizeLine; decide), fun p386 hp387 => ?_⟩
            have hl393 : RL (a := Sm) F380 ([]) ([] : List Sm) := RL.nil
            obtain ⟨F388, O389, S390, h391⟩ := O381.putE hp387 (.lst ([]))
            have f_rule := f_rule.mono S390
            have h4 := S390 _ _ h4
            have r9 := r9.mono S390
            have r10 := r10.mono S390
            have r11 := r11.mono S390
            have r12 := r12.mono S390
            have h18 := S390 _ _ h18
            have hl19 := hl19.mono S390
            have hl73 := hl73.mono S390
            have hl91 := hl91.mono S390
            have h369 := h369.mono S390
            have h376 := h376.mono S390
            have h384 := h384.mono S390
            have hl393 := hl393.mono S390
            have h392 := R.lst (a := Sm) h391 hl393
            refine ⟨(by show 3 ≤ sizeLine; decide), fun p394 hp395 => ?_⟩
            have hl401 : RL (a := (List Sm)) F388 ([V.ref p370, V.ref p378, V.ref p386]) ([([] : List Sm), ([] : List Sm), ([] : List Sm)]) := RL.cons h376 (RL.cons h384 (RL.cons h392 RL.nil))
            obtain ⟨F396, O397, S398, h399⟩ := O389.putE hp395 (.lst ([V.ref p370, V.ref p378, V.ref p386]))
            have f_rule := f_rule.mono S398
            have h4 := S398 _ _ h4
            have r9 := r9.mono S398
            have r10 := r10.mono S398
            have r11 := r11.mono S398
            have r12 := r12.mono S398
            have h18 := S398 _ _ h18
            have hl19 := hl19.mono S398
            have hl73 := hl73.mono S398
            have hl91 := hl91.mono S398
            have h369 := h369.mono S398
            have h376 := h376.mono S398
            have h384 := h384.mono S398
            have h392 := h392.mono S398
            have hl401 := hl401.mono S398
            have h400 := R.lst (a := (List Sm)) h399 hl401
            obtain ⟨p402, w403, e404, h405, hl406⟩ := R.lst_ h400
            cases e404
            obtain ⟨y407, e408, hk⟩ := wp_opt hk
            obtain ⟨w409, e410, r411⟩ := hl406.atI e408
            obtain ⟨p412, w413, e414, h415, hl416⟩ := R.lst_ h400
            cases e414
            obtain ⟨y417, e418, hk⟩ := wp_opt hk
            obtain ⟨w419, e420, r421⟩ := hl416.atI e418
            obtain ⟨p422, w423, e424, h425, hl426⟩ := R.lst_ h400
            cases e424
            obtain ⟨y427, e428, hk⟩ := wp_opt hk
            obtain ⟨w429, e430, r431⟩ := hl426.atI e428
            refine ⟨_, rfl, _, _, _, _, rfl, rfl, (SqLF O397.s h405), e410, _, rfl, _, _, _, _, rfl, rfl, (SqLF O397.s h415), e420, _, rfl, _, _, _, _, rfl, rfl, (SqLF O397.s h425), e430, _, rfl, _, _, _, _, rfl, rfl, (SqTF O397.s h4), rfl, (by show 4 ≤ sizeLine; decide), fun p432 hp433 => ?_⟩
            obtain ⟨F434, O435, S436, h437⟩ := O397.putE hp433 (.tup [w409, w419, w429, v8])
            have f_rule := f_rule.mono S436
            have h4 := S436 _ _ h4
            have r9 := r9.mono S436
            have r10 := r10.mono S436
            have r11 := r11.mono S436
            have r12 := r12.mono S436
            have h18 := S436 _ _ h18
            have hl19 := hl19.mono S436
            have hl73 := hl73.mono S436
            have hl91 := hl91.mono S436
            have h369 := h369.mono S436
            have h376 := h376.mono S436
            have h384 := h384.mono S436
            have h392 := h392.mono S436
            have h400 := h400.mono S436
            have h405 := S436 _ _ h405
            have hl406 := hl406.mono S436
            have r411 := r411.mono S436
            have h415 := S436 _ _ h415
            have hl416 := hl416.mono S436
            have r421 := r421.mono S436
            have h425 := S436 _ _ h425
            have hl426 := hl426.mono S436
            have r431 := r431.mono S436
            have h438 : R (a := (T4 (List Sm) (List Sm) (List Sm) Sm)) F434 (.ref p432) (T4.mk y407 y417 y427 x_rule.d) := R.t4 h437 r411 r421 r431 r12
            exact hk _ _ w89 O435.g (O435.at 0 rfl) hl91 _ h438
          · have hk := wp_el hk q365
            refine ⟨_, rfl, _, _, R.int, R.int, _, rfl, ?_⟩
            refine iteD (fun q439 => ?_) (fun q439 => ?_)
            · have hk := wp_if hk q439
              obtain ⟨F440, O441, S442, h443⟩ := Ow.llFrz (S := [(a_deck, .lst w89)]) (p := p26) (ps := wa59) O92 z54 zs65 hl62
              have f_rule := f_rule.mono S442
              have h4 := S442 _ _ h4
              have r9 := r9.mono S442
              have r10 := r10.mono S442
              have r11 := r11.mono S442
              have r12 := r12.mono S442
              have h18 := S442 _ _ h18
              have hl19 := hl19.mono S442
              have hl73 := hl73.mono S442
              have hl91 := hl91.mono S442
              obtain ⟨p444, w445, e446, h447, hl448⟩ := R.lst_ h443
              cases e446
              obtain ⟨y449, e450, hk⟩ := wp_opt hk
              obtain ⟨w451, e452, r453⟩ := hl448.atI e450
              obtain ⟨p454, w455, e456, h457, hl458⟩ := R.lst_ h443
              cases e456
              obtain ⟨y459, e460, hk⟩ := wp_opt hk
              obtain ⟨w461, e462, r463⟩ := hl458.atI e460
              obtain ⟨p464, w465, e466, h467, hl468⟩ := R.lst_ h443
              cases e466
              obtain ⟨y469, e470, hk⟩ := wp_opt hk
              obtain ⟨w471, e472, r473⟩ := hl468.atI e470
              refine ⟨_, rfl, _, _, _, _, rfl, rfl, (SqLF O441.s h447), e452, _, rfl, _, _, _, _, rfl, rfl, (SqLF O441.s h457), e462, _, rfl, _, _, _, _, rfl, rfl, (SqLF O441.s h467), e472, _, rfl, _, rfl, _, _, _, _, _, rfl, (O441.pre1 0 rfl), hl91, wp_call hk (fun r474 er475 hk F476 H477 w479 g478 h480 hl481 v482 r483 => ?_) (fun n hn C H1 hC kp => hn C H1 hC (O441.kp1 kp 0 rfl))⟩
              have O484 := O441.call1 g478 0 rfl h480
              have S_ := g478.f
              have f_rule := f_rule.mono S_
              have h4 := S_ _ _ h4
              have r9 := r9.mono S_
              have r10 := r10.mono S_
              have r11 := r11.mono S_
              have r12 := r12.mono S_
              have h18 := S_ _ _ h18
              have hl19 := hl19.mono S_
              have hl73 := hl73.mono S_
              have h443 := h443.mono S_
              have h447 := S_ _ _ h447
              have hl448 := hl448.mono S_
              have r453 := r453.mono S_
              have h457 := S_ _ _ h457
              have hl458 := hl458.mono S_
              have r463 := r463.mono S_
              have h467 := S_ _ _ h467
              have hl468 := hl468.mono S_
              have r473 := r473.mono S_
              refine ⟨(by show 4 ≤ sizeLine; decide), fun p485 hp486 => ?_⟩
              obtain ⟨F487, O488, S489, h490⟩ := O484.putE hp486 (.tup [w451, w461, w471, v482])
              have f_rule := f_rule.mono S489
              have h4 := S489 _ _ h4
              have r9 := r9.mono S489
              have r10 := r10.mono S489
              have r11 := r11.mono S489
              have r12 := r12.mono S489
              have h18 := S489 _ _ h18
              have hl19 := hl19.mono S489
              have hl73 := hl73.mono S489
              have h443 := h443.mono S489
              have h447 := S489 _ _ h447
              have hl448 := hl448.mono S489
              have r453 := r453.mono S489
              have h457 := S489 _ _ h457
              have hl458 := hl458.mono S489
              have r463 := r463.mono S489
              have h467 := S489 _ _ h467
              have hl468 := hl468.mono S489
              have r473 := r473.mono S489
              have hl481 := hl481.mono S489
              have r483 := r483.mono S489
              have h491 : R (a := (T4 (List Sm) (List Sm) (List Sm) Sm)) F487 (.ref p485) (T4.mk y449 y459 y469 r474.1) := R.t4 h490 r453 r463 r473 r483
              exact hk _ _ w479 O488.g (O488.at 0 rfl) hl481 _ h491
            · have hk := wp_el hk q439
              refine ⟨_, rfl, _, rfl, _, _, _, _, _, rfl, (O92.pre1 0 rfl), hl91, wp_call hk (fun r492 er493 hk F494 H495 w497 g496 h498 hl499 v500 r501 => ?_) (fun n hn C H1 hC kp => hn C H1 hC (O92.kp1 kp 0 rfl))⟩
              have O502 := O92.call1 g496 0 rfl h498
              have S_ := g496.f
              have f_rule := f_rule.mono S_
              have h4 := S_ _ _ h4
              have r9 := r9.mono S_
              have r10 := r10.mono S_
              have r11 := r11.mono S_
              have r12 := r12.mono S_
              have h18 := S_ _ _ h18
              have hl19 := hl19.mono S_
              have hl62 := hl62.mono S_
              have hl73 := hl73.mono S_
              obtain ⟨y503, e504, hk⟩ := wp_opt hk
              obtain ⟨j505, c506, e507, hj508, hl509, hx510⟩ := LLR.atI hl62 e504
              refine ⟨_, rfl, _, rfl, _, _, _, _, rfl, rfl, (SqL.of (Ow.llTop (S := [(a_deck, .lst w497)]) (p := p26) (ps := wa59) O502)), e507, _, rfl, _, rfl, _, _, _, _, _, rfl, (O502.pre1 0 rfl), hl499, wp_call hk (fun r511 er512 hk F513 H514 w516 g515 h517 hl518 => ?_) (fun n hn C H1 hC kp => hn C H1 hC (O502.kp1 kp 0 rfl))⟩
              have O519 := O502.call1 g515 0 rfl h517
              have S_ := g515.f
              have f_rule := f_rule.mono S_
              have h4 := S_ _ _ h4
              have r9 := r9.mono S_
              have r10 := r10.mono S_
              have r11 := r11.mono S_
              have r12 := r12.mono S_
              have h18 := S_ _ _ h18
              have hl19 := hl19.mono S_
              have hl62 := hl62.mono S_
              have hl73 := hl73.mono S_
              have r501 := r501.mono S_
              have hl509 := hl509.mono S_
              obtain ⟨j520, e521, hk⟩ := wp_setI hk
              obtain ⟨j526, e527, hk⟩ := wp_setI hk
              cases (hx510.symm.trans e527)
              refine ⟨_, _, _, _, rfl, rfl, (Ow.llAt (S := [(a_deck, .lst w516)]) (p := p26) (ps := wa59) O519 hj508), (by rw [hl509.len]; exact e521), ?_⟩
              have O523 := Ow.llSet (S := [(a_deck, .lst w516)]) (p := p26) (ps := wa59) O519 hj508 (c506.2.set j520 v500)
              have hl524 := LLR.set hl62 (RL.set j520 hl509 r501) c506.1 j505
              have zs525 := zs_set zs65 hj508 (c506.2.set j520 v500)
              obtain ⟨F529, O530, S531, h532⟩ := Ow.llFrz (S := [(a_deck, .lst w516)]) (p := p26) (ps := (wa59.set j505 (c506.1, c506.2.set j520 v500))) O523 z54 zs525 hl524
              have f_rule := f_rule.mono S531
              have h4 := S531 _ _ h4
              have r9 := r9.mono S531
              have r10 := r10.mono S531
              have r11 := r11.mono S531
              have r12 := r12.mono S531
              have h18 := S531 _ _ h18
              have hl19 := hl19.mono S531
              have hl73 := hl73.mono S531
              have r501 := r501.mono S531
              have hl518 := hl518.mono S531
              obtain ⟨p533, w534, e535, h536, hl537⟩ := R.lst_ h532
              cases e535
              obtain ⟨y538, e539, hk⟩ := wp_opt hk
              obtain ⟨w540, e541, r542⟩ := hl537.atI e539
              obtain ⟨p543, w544, e545, h546, hl547⟩ := R.lst_ h532
              cases e545
              obtain ⟨y548, e549, hk⟩ := wp_opt hk
              obtain ⟨w550, e551, r552⟩ := hl547.atI e549
              obtain ⟨p553, w554, e555, h556, hl557⟩ := R.lst_ h532
              cases e555
              obtain ⟨y558, e559, hk⟩ := wp_opt hk
              obtain ⟨w560, e561, r562⟩ := hl557.atI e559
              refine ⟨_, rfl, _, _, _, _, rfl, rfl, (SqLF O530.s h536), e541, _, rfl, _, _, _, _, rfl, rfl, (SqLF O530.s h546), e551, _, rfl, _, _, _, _, rfl, rfl, (SqLF O530.s h556), e561, _, rfl, _, _, _, _, rfl, rfl, (SqTF O530.s h4), rfl, (by show 4 ≤ sizeLine; decide), fun p563 hp564 => ?_⟩
              obtain ⟨F565, O566, S567, h568⟩ := O530.putE hp564 (.tup [w540, w550, w560, v8])
              have f_rule := f_rule.mono S567
              have h4 := S567 _ _ h4
              have r9 := r9.mono S567
              have r10 := r10.mono S567
              have r11 := r11.mono S567
              have r12 := r12.mono S567
              have h18 := S567 _ _ h18
              have hl19 := hl19.mono S567
              have hl73 := hl73.mono S567
              have r501 := r501.mono S567
              have hl518 := hl518.mono S567
              have h532 := h532.mono S567
              have h536 := S567 _ _ h536
              have hl537 := hl537.mono S567
              have r542 := r542.mono S567
              have h546 := S567 _ _ h546
              have hl547 := hl547.mono S567
              have r552 := r552.mono S567
              have h556 := S567 _ _ h556
              have hl557 := hl557.mono S567
              have r562 := r562.mono S567
              have h569 : R (a := (T4 (List Sm) (List Sm) (List Sm) Sm)) F565 (.ref p563) (T4.mk y538 y548 y558 x_rule.d) := R.t4 h568 r542 r552 r562 r12
              exact hk _ _ w516 O566.g (O566.at 0 rfl) hl518 _ h569
abbrev s_law : Stmt := top 16
theorem sc_law : FnScope ["script", "cell", "deck", "rule", "some", "handed", "found", "k"] ["script"] (defScope s_law) := ⟨rfl, rfl, rfl, by decide +kernel, rfl, by decide +kernel, by decide +kernel⟩
def m_law (x_script : (List Int)) : M (Bool) :=
chk (([((10 : Int) ^ Int.toNat (18 : Int))]).length + (cutL x_script none (some (25 : Int))).length < 16777216) >>= fun _ =>
loopM (fun (y41 : Int) (st52 : Unit) =>
m_law_deck y41 >>= fun r64 =>
m_law_rule r64 true >>= fun r78 =>
chk (okR (4 : Int)) >>= fun _ =>
compS (fun (y97 : Int) (st115 : (List Int)) =>
m_law_spoilt st115 r78.1 >>= fun r121 =>
.ok (some r121.1, r121.2)) (rangeL 0 (4 : Int)) r78.2 >>= fun q145 =>
chk (([r78.1]).length + q145.1.length < 16777216) >>= fun _ =>
loopM (fun (y175 : (T4 (List Sm) (List Sm) (List Sm) Sm)) (st186 : Unit) =>
m_is_rule (T4.mk y175.a y175.b y175.c y175.d) >>= fun r252 =>
m_law_due y175 >>= fun r258 =>
if r252 ≠ r258 then (
.ok (.rt (.rt false)))
else (
chk (min (dep (T4.mk y175.a y175.b y175.c y175.d)) (dep y175) ≤ 60) >>= fun _ =>
if (T4.mk y175.a y175.b y175.c y175.d) ≠ y175 then (
.ok (.rt (.rt false)))
else (
.ok (.nx ())))) (([r78.1]) ++ q145.1) () >>= fun f277 => match f277 with
| .rt z_ => .ok z_
| .nx st270 =>
m_is_rule r78.1 >>= fun r278 =>
if r278 = true then (
.ok (.nx ()))
else (
.ok (.rt false))) (([((10 : Int) ^ Int.toNat (18 : Int))]) ++ (cutL x_script none (some (25 : Int)))) () >>= fun f299 => match f299 with
| .rt z_ => .ok z_
| .nx st289 =>
.ok true
def sp_law (K : PySem.W.Frag) : Sp := fun vs H Q E => ∃ (F : Hp) (a_script : Addr) (x_script : (List Int)), vs = [.ref a_script] ∧ Pre F [] H ∧ SqL K F a_script (x_script.map V.int) ∧
  wp (m_law x_script) (fun r => ∀ (F' H' : Hp), Gr [] F H F' H' → Q (V.bl r) H') (fun _ => False)
set_option maxHeartbeats 2000000 in
theorem ok_law (nb : Nb mg) (C_law_deck : Ca P w K mg base "_law_deck" 2 ["cell"] (sp_law_deck mg)) (C_law_due : Ca P w K mg base "_law_due" 15 ["rule"] (sp_law_due mg)) (C_law_rule : Ca P w K mg base "_law_rule" 9 ["deck", "times"] (sp_law_rule mg)) (C_law_spoilt : Ca P w K mg base "_law_spoilt" 3 ["deck", "rule"] (sp_law_spoilt mg)) (C_is_rule : Ca P w K mg base "is_rule" 62 ["thing"] (sp_is_rule mg)) {f : Addr} {fd : FuncData} (F_ : Fun K "law" "law" s_law f fd) : FnOk P w K mg base (L2.CX P w) 63 f fd ["script"] (sp_law K) := by
  obtain ⟨fa_law_deck, fd_law_deck, G_law_deck, M_law_deck, K_law_deck, B_law_deck⟩ := C_law_deck.ex
  obtain ⟨fa_law_due, fd_law_due, G_law_due, M_law_due, K_law_due, B_law_due⟩ := C_law_due.ex
  obtain ⟨fa_law_rule, fd_law_rule, G_law_rule, M_law_rule, K_law_rule, B_law_rule⟩ := C_law_rule.ex
  obtain ⟨fa_law_spoilt, fd_law_spoilt, G_law_spoilt, M_law_spoilt, K_law_spoilt, B_law_spoilt⟩ := C_law_spoilt.ex
  obtain ⟨fa_is_rule, fd_is_rule, G_is_rule, M_is_rule, K_is_rule, B_is_rule⟩ := C_is_rule.ex
  refine F_.okX sc_law (fun vs H Q E h => ?_) (fun cdv A outer s H vs Q E hr h => ?_)
  · obtain ⟨F, _, _, rfl, _⟩ := h
    rfl
  · obtain ⟨F, a_script, x_script, rfl, P0, f_script, hk⟩ := h
    have nd := sc_law.nd
    have hu64 := hr.units
    have hu128 := hu128_of hr
    have O := P0.start
    refine ⟨_, (pss_cons (ps_for (passes_of rfl) rfl (piListK (K := K) rfl (pe_op op_cat (pe_lst (pa_cons (pe_op op_pow pe_int pe_int) pa_nil)) (pe_slice (slListK (K := K) rfl) (pv 0) po_none (po_some pe_int)))) (pg_name (i := 1) nd rfl (Or.inl rfl)) (pss_cons (ps_set (i := 2) nd rfl (Or.inr rfl) (pe_call G_law_deck (hr.mono (by decide)) rfl M_law_deck K_law_deck B_law_deck .nil (passes_call (takes_of rfl rfl rfl rfl) fun _ _ _ _ h => h) (pa_cons (pv 1) pa_nil)))
  (pss_cons (ps_set (i := 3) nd rfl (Or.inr rfl) (pe_call G_law_rule (hr.mono (by decide)) rfl M_law_rule K_law_rule B_law_rule .nil (passes_call (takes_of rfl rfl rfl rfl) fun _ _ _ _ h => h) (pa_cons (pv 2) (pa_cons pe_bl pa_nil))))
  (pss_cons (ps_for (passes_of rfl) rfl (piListK (K := K) rfl (pe_op op_cat (pe_lst (pa_cons (pv 3) pa_nil)) (pe_lc (own := [("k", 7)]) (g := gName 7) (tt := _) rfl nd (pi_range1 rfl nb.b_range (pa_cons pe_int pa_nil)) (blkOk_by (own := [("k", 7)]) (N := ["script", "cell", "deck", "rule", "some", "handed", "found", "k"]) (sc := defScope s_law) (by decide +kernel)) (fun _ _ _ _ _ => (pg_name (i := 7) nd rfl (Or.inl rfl))) (fun _ _ _ _ _ => pts_nil) (fun _ _ _ _ _ => (pe_call G_law_spoilt (hr.mono (by decide)) rfl M_law_spoilt K_law_spoilt B_law_spoilt .nil passL (pa_cons (pv 2) (pa_cons (pv 3) pa_nil))))))) (pg_name (i := 4) nd rfl (Or.inl rfl)) (pss_cons (ps_set (i := 5) nd rfl (Or.inl rfl) (pe_tup (pa_cons (pe_callTy (listOfK (K := K) rfl) (by rfl) nb.b_list (by decide +kernel) (pa_cons (pe_ix (ixTupK (K := K) rfl) (pv 4) pe_int (fun _ _ => rfl)) pa_nil)) (pa_cons (pe_callTy (listOfK (K := K) rfl) (by rfl) nb.b_list (by decide +kernel) (pa_cons (pe_ix (ixTupK (K := K) rfl) (pv 4) pe_int (fun _ _ => rfl)) pa_nil)) (pa_cons (pe_callTy (listOfK (K := K) rfl) (by rfl) nb.b_list (by decide +kernel) (pa_cons (pe_ix (ixTupK (K := K) rfl) (pv 4) pe_int (fun _ _ => rfl)) pa_nil)) (pa_cons (pe_ix (ixTupK (K := K) rfl) (pv 4) pe_int (fun _ _ => rfl)) pa_nil))))))
  (pss_cons (ps_set (i := 6) nd rfl (Or.inl rfl) (pe_call G_is_rule (hr.mono (by decide)) rfl M_is_rule K_is_rule B_is_rule .nil (passes_call (takes_of rfl rfl rfl rfl) fun _ _ _ _ h => h) (pa_cons (pv 5) pa_nil)))
  (pss_one (ps_if (PW.pt (pw_or (pt_not (pt_val (pe_callB (isiK (K := K) rfl) (by rfl) nb.b_isinstance (by decide +kernel) (pa_cons (pv 6) (pa_cons (pe_bltn (v := .ty "bool") (by rfl) nb.b_bool (by decide +kernel) rfl) pa_nil))))) (pw_or (pt_cmpR (op_neT Bool hu64) (pv 6) (pe_call G_law_due (hr.mono (by decide)) rfl M_law_due K_law_due B_law_due .nil (passes_call (takes_of rfl rfl rfl rfl) fun _ _ _ _ h => h) (pa_cons (pv 4) pa_nil)) (nomark _)) (pw_or1 (pt_cmpR (op_neX (T4 (List Sm) (List Sm) (List Sm) Sm) hu64) (pv 5) (pv 4) (nomark _)))))) (pss_one (ps_ret pe_bl)) pss_nil)))))
  (pss_one (ps_if (pt_cmpR op_isnot_bl (pe_call G_is_rule (hr.mono (by decide)) rfl M_is_rule K_is_rule B_is_rule .nil (passes_call (takes_of rfl rfl rfl rfl) fun _ _ _ _ h => h) (pa_cons (pv 3) pa_nil)) pe_bl (nomark _)) (pss_one (ps_ret pe_bl)) pss_nil))))))
  (pss_one (ps_ret pe_bl))), ?_⟩
    refine ⟨_, _, rfl, rfl, (by decide), (by show 1 ≤ sizeLine; decide), fun p1 hp2 => ?_⟩
    have hl8 : RL (a := Int) F ([V.int ((10 : Int) ^ Int.toNat (18 : Int))]) ([((10 : Int) ^ Int.toNat (18 : Int))]) := RL.cons R.int RL.nil
    obtain ⟨F3, O4, S5, h6⟩ := O.putE hp2 (.lst ([V.int ((10 : Int) ^ Int.toNat (18 : Int))]))
    have f_script := S5.seq f_script
    have hl8 := hl8.mono S5
    have h7 := R.lst (a := Int) h6 hl8
    refine ⟨_, rfl, _, rfl, _, _, rfl, (O4.s.seq f_script), fun p9 hp10 => ?_⟩
    have hl16 : RL (a := Int) F3 (cutV (List.map V.int x_script) none (some (25 : Int))) (cutL x_script none (some (25 : Int))) := RL.cutL RL.of_ints none (some (25 : Int))
    obtain ⟨F11, O12, S13, h14⟩ := O4.putE hp10 (.lst (cutV (List.map V.int x_script) none (some (25 : Int))))
    have f_script := S13.seq f_script
    have h7 := h7.mono S13
    have hl16 := hl16.mono S13
    have h15 := R.lst (a := Int) h14 hl16
    obtain ⟨p17, w18, e19, h20, hl21⟩ := R.lst_ h7
    cases e19
    obtain ⟨p22, w23, e24, h25, hl26⟩ := R.lst_ h15
    cases e24
    obtain ⟨c27, hk⟩ := wp_chk hk
    refine ⟨_, _, _, _, rfl, rfl, (O12.s _ _ h20), (O12.s _ _ h25), (by rw [hl21.len, hl26.len]; exact le_line c27), fun p28 hp29 => ?_⟩
    have hl35 : RL (a := Int) F11 (w18 ++ w23) (([((10 : Int) ^ Int.toNat (18 : Int))]) ++ (cutL x_script none (some (25 : Int)))) := RL.app hl21 hl26
    obtain ⟨F30, O31, S32, h33⟩ := O12.putE hp29 (.lst (w18 ++ w23))
    have f_script := S32.seq f_script
    have h7 := h7.mono S32
    have h15 := h15.mono S32
    have h20 := S32 _ _ h20
    have hl21 := hl21.mono S32
    have h25 := S32 _ _ h25
    have hl26 := hl26.mono S32
    have hl35 := hl35.mono S32
    have h34 := R.lst (a := Int) h33 hl35
    obtain ⟨p36, w37, e38, h39, hl40⟩ := R.lst_ h34
    cases e38
    obtain ⟨L42, hL43, hLs44, hLd45⟩ := loopM_L hk
    refine ⟨_, rfl, ⟨_, (SqLF O31.s h39)⟩, ?_⟩
    refine for_list (K := K) (xs := w37) (fun i σ H => ∃ (F_ : Hp) (st : Unit) (t_0 : Option V) (t_1 : Option V) (t_2 : Option V) (t_3 : Option V) (t_4 : Option V) (t_5 : Option V), σ = [some (V.ref a_script), t_0, t_1, t_2, t_3, t_4, t_5, none] ∧ Same F30 F_ ∧ Ow _ F_ [] H ∧ L42 (List.drop i (([((10 : Int) ^ Int.toNat (18 : Int))]) ++ (cutL x_script none (some (25 : Int))))) st) ⟨F30, (), none, none, none, none, none, none, rfl, Same.refl _, O31, hL43⟩ (fun i_ σ_ H_ _ hp_ => ?_) ?_ ?_
    · obtain ⟨_, _, _, _, _, _, _, _, _, hS_, hO_, _⟩ := hp_
      exact SqLF hO_.s (hS_ _ _ h39)
    · rintro i46 x47 sg48 H49 hi50 ⟨F59, st52, t53, t54, t55, t56, t57, t58, rfl, S51, O60, hL43⟩
      have f_script := S51.seq f_script
      have h7 := h7.mono S51
      have h15 := h15.mono S51
      have h20 := S51 _ _ h20
      have hl21 := hl21.mono S51
      have h25 := S51 _ _ h25
      have hl26 := hl26.mono S51
      have h34 := h34.mono S51
      have h39 := S51 _ _ h39
      have hl40 := hl40.mono S51
      obtain ⟨y41, e61, r62⟩ := RL.got hl40 hi50
      rw [drop_at e61] at hL43
      have hk := hLs44 _ _ _ hL43
      obtain rfl := R.int_ r62
      refine ⟨_, rfl, _, _, rfl, O60.pre0, wp_call hk (fun r64 er65 hk F66 H67 g68 p69 w70 hn71 hf72 h73 hl74 => ?_) (fun n hn C H1 hC kp => hn.elim)⟩
      have O75 := O60.call0 g68
      have S_ := g68.f
      have f_script := S_.seq f_script
      have h7 := h7.mono S_
      have h15 := h15.mono S_
      have h20 := S_ _ _ h20
      have hl21 := hl21.mono S_
      have h25 := S_ _ _ h25
      have hl26 := hl26.mono S_
      have h34 := h34.mono S_
      have h39 := S_ _ _ h39
      have hl40 := hl40.mono S_
      have S51 := S51.trans S_
      have O76 := O60.got O75 rfl hn71 hf72 h73
      have z77 := O60.was hn71
      refine ⟨_, rfl, _, _, _, _, _, rfl, (O76.pre1 0 rfl), hl74, wp_call hk (fun r78 er79 hk F80 H81 w83 g82 h84 hl85 v86 r87 => ?_) (fun n hn C H1 hC kp => hn.elim)⟩
      have O88 := O76.call1 g82 0 rfl h84
      have S_ := g82.f
      have f_script := S_.seq f_script
      have h7 := h7.mono S_
      have h15 := h15.mono S_
      have h20 := S_ _ _ h20
      have hl21 := hl21.mono S_
      have h25 := S_ _ _ h25
      have hl26 := hl26.mono S_
      have h34 := h34.mono S_
      have h39 := S_ _ _ h39
      have hl40 := hl40.mono S_
      have S51 := S51.trans S_
      refine ⟨_, rfl, (by show 1 ≤ sizeLine; decide), fun p89 hp90 => ?_⟩
      have hl96 : RL (a := (T4 (List Sm) (List Sm) (List Sm) Sm)) F80 ([v86]) ([r78.1]) := RL.cons r87 RL.nil
      obtain ⟨F91, O92, S93, h94⟩ := O88.putE hp90 (.lst ([v86]))
      have f_script := S93.seq f_script
      have h7 := h7.mono S93
      have h15 := h15.mono S93
      have h20 := S93 _ _ h20
      have hl21 := hl21.mono S93
      have h25 := S93 _ _ h25
      have hl26 := hl26.mono S93
      have h34 := h34.mono S93
      have h39 := S93 _ _ h39
      have hl40 := hl40.mono S93
      have S51 := S51.trans S93
      have hl85 := hl85.mono S93
      have r87 := r87.mono S93
      have hl96 := hl96.mono S93
      have h95 := R.lst (a := (T4 (List Sm) (List Sm) (List Sm) Sm)) h94 hl96
      obtain ⟨c98, hk⟩ := wp_chk hk
      obtain ⟨c103, L99, hL100, hLs101, hLd102⟩ := compS_L hk
      refine ⟨_, rfl, c98.lo, c98.hi, fun p104 hp105 => ?_⟩
      have z132 := O92.was hp105
      refine lc_range (lo := 0) (n := ((4 : Int)).toNat) (fun i H => ∃ (F_ : Hp) (st : (List Int)) (acc : List (T4 (List Sm) (List Sm) (List Sm) Sm)) (wa : List V) (w_0 : (List V)), Same F91 F_ ∧ Ow _ F_ [(p104, .lst wa), (p69, .lst w_0)] H ∧ RL F_ wa acc ∧ RL (a := Int) F_ w_0 st ∧ wa.length ≤ i ∧ L99 (List.drop i (rangeL 0 (4 : Int))) acc st) ⟨F91, r78.2, [], [], w83, Same.refl _, O92.new hp105, RL.nil, hl85, Nat.zero_le _, hL100⟩ ?_ ?_
      · rintro i106 H108 hi109 ⟨F114, st115, acc111, wa112, w117, S116, O120, hl119, hl118, la113, hL100⟩
        have f_script := S116.seq f_script
        have h7 := h7.mono S116
        have h15 := h15.mono S116
        have h20 := S116 _ _ h20
        have hl21 := hl21.mono S116
        have h25 := S116 _ _ h25
        have hl26 := hl26.mono S116
        have h34 := h34.mono S116
        have h39 := S116 _ _ h39
        have hl40 := hl40.mono S116
        have S51 := S51.trans S116
        have r87 := r87.mono S116
        have h95 := h95.mono S116
        rw [rangeL_get0 hi109] at hL100
        have hk := hLs101 _ _ _ _ hL100
        obtain ⟨y97, he_⟩ : ∃ z_, z_ = 0 + (i106 : Int) := ⟨_, rfl⟩
        try rw [← he_] at hk
        rw [← he_]
        refine ⟨rfl, ?_⟩
        refine ⟨_, rfl, _, rfl, _, _, _, _, _, _, rfl, (O120.pre1 1 rfl), hl118, r87, wp_call hk (fun r121 er122 hk F123 H124 w126 g125 h127 hl128 v129 r130 => ?_) (fun n hn => hn.elim)⟩
        have O131 := O120.call1 g125 1 rfl h127
        have S_ := g125.f
        have f_script := S_.seq f_script
        have h7 := h7.mono S_
        have h15 := h15.mono S_
        have h20 := S_ _ _ h20
        have hl21 := hl21.mono S_
        have h25 := S_ _ _ h25
        have hl26 := hl26.mono S_
        have h34 := h34.mono S_
        have h39 := S_ _ _ h39
        have hl40 := hl40.mono S_
        have S51 := S51.trans S_
        have r87 := r87.mono S_
        have h95 := h95.mono S_
        have S116 := S116.trans S_
        have hl119 := hl119.mono S_
        refine ⟨_, (O131.at 0 rfl), (comp_lenR la113 hi109 (by rw [Int.sub_zero]) c103), ?_⟩
        exact ⟨F123, r121.2, acc111 ++ [r121.1], wa112 ++ [v129], w126, S116, O131.set 0 (.lst (wa112 ++ [v129])) rfl, RL.snoc hl119 r130, hl128, by rw [List.length_append]; exact Nat.succ_le_succ la113, hk⟩
      rintro H133 ⟨F134, st135, acc136, wa137, w143, S138, O139, hl140, hl144, la141, hL142⟩
      rw [rangeL_end0] at hL142
      have hk := hLd102 _ _ hL142
      have f_script := S138.seq f_script
      have h7 := h7.mono S138
      have h15 := h15.mono S138
      have h20 := S138 _ _ h20
      have hl21 := hl21.mono S138
      have h25 := S138 _ _ h25
      have hl26 := hl26.mono S138
      have h34 := h34.mono S138
      have h39 := S138 _ _ h39
      have hl40 := hl40.mono S138
      have S51 := S51.trans S138
      have r87 := r87.mono S138
      have h95 := h95.mono S138
      obtain ⟨F146, O147, S148, h149⟩ := O139.frzE 0 rfl z132
      have f_script := S148.seq f_script
      have h7 := h7.mono S148
      have h15 := h15.mono S148
      have h20 := S148 _ _ h20
      have hl21 := hl21.mono S148
      have h25 := S148 _ _ h25
      have hl26 := hl26.mono S148
      have h34 := h34.mono S148
      have h39 := S148 _ _ h39
      have hl40 := hl40.mono S148
      have S51 := S51.trans S148
      have r87 := r87.mono S148
      have h95 := h95.mono S148
      have hl144 := hl144.mono S148
      have hl140 := hl140.mono S148
      have h150 := R.lst (a := (T4 (List Sm) (List Sm) (List Sm) Sm)) h149 hl140
      obtain ⟨p151, w152, e153, h154, hl155⟩ := R.lst_ h95
      cases e153
      obtain ⟨p156, w157, e158, h159, hl160⟩ := R.lst_ h150
      cases e158
      obtain ⟨c161, hk⟩ := wp_chk hk
      refine ⟨_, _, _, _, rfl, rfl, (O147.s _ _ h154), (O147.s _ _ h159), (by rw [hl155.len, hl160.len]; exact le_line c161), fun p162 hp163 => ?_⟩
      have hl169 : RL (a := (T4 (List Sm) (List Sm) (List Sm) Sm)) F146 (w152 ++ w157) (([r78.1]) ++ acc136) := RL.app hl155 hl160
      obtain ⟨F164, O165, S166, h167⟩ := O147.putE hp163 (.lst (w152 ++ w157))
      have f_script := S166.seq f_script
      have h7 := h7.mono S166
      have h15 := h15.mono S166
      have h20 := S166 _ _ h20
      have hl21 := hl21.mono S166
      have h25 := S166 _ _ h25
      have hl26 := hl26.mono S166
      have h34 := h34.mono S166
      have h39 := S166 _ _ h39
      have hl40 := hl40.mono S166
      have S51 := S51.trans S166
      have r87 := r87.mono S166
      have h95 := h95.mono S166
      have hl144 := hl144.mono S166
      have h150 := h150.mono S166
      have h154 := S166 _ _ h154
      have hl155 := hl155.mono S166
      have h159 := S166 _ _ h159
      have hl160 := hl160.mono S166
      have hl169 := hl169.mono S166
      have h168 := R.lst (a := (T4 (List Sm) (List Sm) (List Sm) Sm)) h167 hl169
      obtain ⟨p170, w171, e172, h173, hl174⟩ := R.lst_ h168
      cases e172
      obtain ⟨L176, hL177, hLs178, hLd179⟩ := loopM_L hk
      refine ⟨_, rfl, ⟨_, (SqLF O165.s h173)⟩, ?_⟩
      refine for_list (K := K) (xs := w171) (fun i σ H => ∃ (F_ : Hp) (st : Unit) (t_0 : Option V) (t_1 : Option V) (t_2 : Option V), σ = [some (V.ref a_script), some (V.int y41), some (V.ref p69), some v86, t_0, t_1, t_2, none] ∧ Same F164 F_ ∧ Ow _ F_ [(p69, .lst w143)] H ∧ L176 (List.drop i (([r78.1]) ++ acc136)) st) ⟨F164, (), t56, t57, t58, rfl, Same.refl _, O165, hL177⟩ (fun i_ σ_ H_ _ hp_ => ?_) ?_ ?_
      · obtain ⟨_, _, _, _, _, _, hS_, hO_, _⟩ := hp_
        exact SqLF hO_.s (hS_ _ _ h173)
      · rintro i180 x181 sg182 H183 hi184 ⟨F190, st186, t187, t188, t189, rfl, S185, O191, hL177⟩
        have f_script := S185.seq f_script
        have h7 := h7.mono S185
        have h15 := h15.mono S185
        have h20 := S185 _ _ h20
        have hl21 := hl21.mono S185
        have h25 := S185 _ _ h25
        have hl26 := hl26.mono S185
        have h34 := h34.mono S185
        have h39 := S185 _ _ h39
        have hl40 := hl40.mono S185
        have S51 := S51.trans S185
        have r87 := r87.mono S185
        have h95 := h95.mono S185
        have hl144 := hl144.mono S185
        have h150 := h150.mono S185
        have h154 := S185 _ _ h154
        have hl155 := hl155.mono S185
        have h159 := S185 _ _ h159
        have hl160 := hl160.mono S185
        have h168 := h168.mono S185
        have h173 := S185 _ _ h173
        have hl174 := hl174.mono S185
        obtain ⟨y175, e192, r193⟩ := RL.got hl174 hi184
        rw [drop_at e192] at hL177
        have hk := hLs178 _ _ _ hL177
        obtain ⟨p195, v198, v199, v200, v201, e196, h197, r202, r203, r204, r205⟩ := R.t4_ r193
        cases e196
        obtain ⟨p206, w207, e208, h209, hl210⟩ := R.lst_ r202
        cases e208
        refine ⟨_, rfl, _, _, _, _, rfl, rfl, (SqTF O191.s h197), rfl, _, _, rfl, (.inl (SqLF O191.s h209)), fun p211 hp212 => ?_⟩
        have hl218 : RL (a := Sm) F190 w207 y175.a := hl210
        obtain ⟨F213, O214, S215, h216⟩ := O191.putE hp212 (.lst w207)
        have f_script := S215.seq f_script
        have h7 := h7.mono S215
        have h15 := h15.mono S215
        have h20 := S215 _ _ h20
        have hl21 := hl21.mono S215
        have h25 := S215 _ _ h25
        have hl26 := hl26.mono S215
        have h34 := h34.mono S215
        have h39 := S215 _ _ h39
        have hl40 := hl40.mono S215
        have S51 := S51.trans S215
        have r87 := r87.mono S215
        have h95 := h95.mono S215
        have hl144 := hl144.mono S215
        have h150 := h150.mono S215
        have h154 := S215 _ _ h154
        have hl155 := hl155.mono S215
        have h159 := S215 _ _ h159
        have hl160 := hl160.mono S215
        have h168 := h168.mono S215
        have h173 := S215 _ _ h173
        have hl174 := hl174.mono S215
        have S185 := S185.trans S215
        have r193 := r193.mono S215
        have h197 := S215 _ _ h197
        have r202 := r202.mono S215
        have r203 := r203.mono S215
        have r204 := r204.mono S215
        have r205 := r205.mono S215
        have h209 := S215 _ _ h209
        have hl210 := hl210.mono S215
        have hl218 := hl218.mono S215
        have h217 := R.lst (a := Sm) h216 hl218
        obtain ⟨p219, w220, e221, h222, hl223⟩ := R.lst_ r203
        cases e221
        refine ⟨_, rfl, _, _, _, _, rfl, rfl, (SqTF O214.s h197), rfl, _, _, rfl, (.inl (SqLF O214.s h222)), fun p224 hp225 => ?_⟩
        have hl231 : RL (a := Sm) F213 w220 y175.b := hl223
        obtain ⟨F226, O227, S228, h229⟩ := O214.putE hp225 (.lst w220)
        have f_script := S228.seq f_script
        have h7 := h7.mono S228
        have h15 := h15.mono S228
        have h20 := S228 _ _ h20
        have hl21 := hl21.mono S228
        have h25 := S228 _ _ h25
        have hl26 := hl26.mono S228
        have h34 := h34.mono S228
        have h39 := S228 _ _ h39
        have hl40 := hl40.mono S228
        have S51 := S51.trans S228
        have r87 := r87.mono S228
        have h95 := h95.mono S228
        have hl144 := hl144.mono S228
        have h150 := h150.mono S228
        have h154 := S228 _ _ h154
        have hl155 := hl155.mono S228
        have h159 := S228 _ _ h159
        have hl160 := hl160.mono S228
        have h168 := h168.mono S228
        have h173 := S228 _ _ h173
        have hl174 := hl174.mono S228
        have S185 := S185.trans S228
        have r193 := r193.mono S228
        have h197 := S228 _ _ h197
        have r202 := r202.mono S228
        have r203 := r203.mono S228
        have r204 := r204.mono S228
        have r205 := r205.mono S228
        have h209 := S228 _ _ h209
        have hl210 := hl210.mono S228
        have h217 := h217.mono S228
        have h222 := S228 _ _ h222
        have hl223 := hl223.mono S228
        have hl231 := hl231.mono S228
        have h230 := R.lst (a := Sm) h229 hl231
        obtain ⟨p232, w233, e234, h235, hl236⟩ := R.lst_ r204
        cases e234
        refine ⟨_, rfl, _, _, _, _, rfl, rfl, (SqTF O227.s h197), rfl, _, _, rfl, (.inl (SqLF O227.s h235)), fun p237 hp238 => ?_⟩
        have hl244 : RL (a := Sm) F226 w233 y175.c := hl236
        obtain ⟨F239, O240, S241, h242⟩ := O227.putE hp238 (.lst w233)
        have f_script := S241.seq f_script
        have h7 := h7.mono S241
        have h15 := h15.mono S241
        have h20 := S241 _ _ h20
        have hl21 := hl21.mono S241
        have h25 := S241 _ _ h25
        have hl26 := hl26.mono S241
        have h34 := h34.mono S241
        have h39 := S241 _ _ h39
        have hl40 := hl40.mono S241
        have S51 := S51.trans S241
        have r87 := r87.mono S241
        have h95 := h95.mono S241
        have hl144 := hl144.mono S241
        have h150 := h150.mono S241
        have h154 := S241 _ _ h154
        have hl155 := hl155.mono S241
        have h159 := S241 _ _ h159
        have hl160 := hl160.mono S241
        have h168 := h168.mono S241
        have h173 := S241 _ _ h173
        have hl174 := hl174.mono S241
        have S185 := S185.trans S241
        have r193 := r193.mono S241
        have h197 := S241 _ _ h197
        have r202 := r202.mono S241
        have r203 := r203.mono S241
        have r204 := r204.mono S241
        have r205 := r205.mono S241
        have h209 := S241 _ _ h209
        have hl210 := hl210.mono S241
        have h217 := h217.mono S241
        have h222 := S241 _ _ h222
        have hl223 := hl223.mono S241
        have h230 := h230.mono S241
        have h235 := S241 _ _ h235
        have hl236 := hl236.mono S241
        have hl244 := hl244.mono S241
        have h243 := R.lst (a := Sm) h242 hl244
        refine ⟨_, rfl, _, _, _, _, rfl, rfl, (SqTF O240.s h197), rfl, (by show 4 ≤ sizeLine; decide), fun p245 hp246 => ?_⟩
        obtain ⟨F247, O248, S249, h250⟩ := O240.putE hp246 (.tup [V.ref p211, V.ref p224, V.ref p237, v201])
        have f_script := S249.seq f_script
        have h7 := h7.mono S249
        have h15 := h15.mono S249
        have h20 := S249 _ _ h20
        have hl21 := hl21.mono S249
        have h25 := S249 _ _ h25
        have hl26 := hl26.mono S249
        have h34 := h34.mono S249
        have h39 := S249 _ _ h39
        have hl40 := hl40.mono S249
        have S51 := S51.trans S249
        have r87 := r87.mono S249
        have h95 := h95.mono S249
        have hl144 := hl144.mono S249
        have h150 := h150.mono S249
        have h154 := S249 _ _ h154
        have hl155 := hl155.mono S249
        have h159 := S249 _ _ h159
        have hl160 := hl160.mono S249
        have h168 := h168.mono S249
        have h173 := S249 _ _ h173
        have hl174 := hl174.mono S249
        have S185 := S185.trans S249
        have r193 := r193.mono S249
        have h197 := S249 _ _ h197
        have r202 := r202.mono S249
        have r203 := r203.mono S249
        have r204 := r204.mono S249
        have r205 := r205.mono S249
        have h209 := S249 _ _ h209
        have hl210 := hl210.mono S249
        have h217 := h217.mono S249
        have h222 := S249 _ _ h222
        have hl223 := hl223.mono S249
        have h230 := h230.mono S249
        have h235 := S249 _ _ h235
        have hl236 := hl236.mono S249
        have h243 := h243.mono S249
        have h251 : R (a := (T4 (List Sm) (List Sm) (List Sm) Sm)) F247 (.ref p245) (T4.mk y175.a y175.b y175.c y175.d) := R.t4 h250 h217 h230 h243 r205
        refine ⟨_, rfl, _, _, _, rfl, O248.pre0, h251, wp_call hk (fun r252 er253 hk F254 H255 g256 => ?_) (fun n hn C H1 hC kp => hn.elim)⟩
        have O257 := O248.call0 g256
        have S_ := g256.f
        have f_script := S_.seq f_script
        have h7 := h7.mono S_
        have h15 := h15.mono S_
        have h20 := S_ _ _ h20
        have hl21 := hl21.mono S_
        have h25 := S_ _ _ h25
        have hl26 := hl26.mono S_
        have h34 := h34.mono S_
        have h39 := S_ _ _ h39
        have hl40 := hl40.mono S_
        have S51 := S51.trans S_
        have r87 := r87.mono S_
        have h95 := h95.mono S_
        have hl144 := hl144.mono S_
        have h150 := h150.mono S_
        have h154 := S_ _ _ h154
        have hl155 := hl155.mono S_
        have h159 := S_ _ _ h159
        have hl160 := hl160.mono S_
        have h168 := h168.mono S_
        have h173 := S_ _ _ h173
        have hl174 := hl174.mono S_
        have S185 := S185.trans S_
        have r193 := r193.mono S_
        have h197 := S_ _ _ h197
        have r202 := r202.mono S_
        have r203 := r203.mono S_
        have r204 := r204.mono S_
        have r205 := r205.mono S_
        have h209 := S_ _ _ h209
        have hl210 := hl210.mono S_
        have h217 := h217.mono S_
        have h222 := S_ _ _ h222
        have hl223 := hl223.mono S_
        have h230 := h230.mono S_
        have h235 := S_ _ _ h235
        have hl236 := hl236.mono S_
        have h243 := h243.mono S_
        have h251 := h251.mono S_
        refine ⟨_, rfl, _, _, _, _, true, rfl, .ty _, (.base (.bl _)), kit_ty (by decide +kernel), _, rfl, ?_⟩
        refine iteNT ?_
        refine ⟨_, rfl, _, rfl, _, _, _, rfl, O257.pre0, r193, wp_call hk (fun r258 er259 hk F260 H261 g262 => ?_) (fun n hn C H1 hC kp => hn.elim)⟩
        have O263 := O257.call0 g262
        have S_ := g262.f
        have f_script := S_.seq f_script
        have h7 := h7.mono S_
        have h15 := h15.mono S_
        have h20 := S_ _ _ h20
        have hl21 := hl21.mono S_
        have h25 := S_ _ _ h25
        have hl26 := hl26.mono S_
        have h34 := h34.mono S_
        have h39 := S_ _ _ h39
        have hl40 := hl40.mono S_
        have S51 := S51.trans S_
        have r87 := r87.mono S_
        have h95 := h95.mono S_
        have hl144 := hl144.mono S_
        have h150 := h150.mono S_
        have h154 := S_ _ _ h154
        have hl155 := hl155.mono S_
        have h159 := S_ _ _ h159
        have hl160 := hl160.mono S_
        have h168 := h168.mono S_
        have h173 := S_ _ _ h173
        have hl174 := hl174.mono S_
        have S185 := S185.trans S_
        have r193 := r193.mono S_
        have h197 := S_ _ _ h197
        have r202 := r202.mono S_
        have r203 := r203.mono S_
        have r204 := r204.mono S_
        have r205 := r205.mono S_
        have h209 := S_ _ _ h209
        have hl210 := hl210.mono S_
        have h217 := h217.mono S_
        have h222 := S_ _ _ h222
        have hl223 := hl223.mono S_
        have h230 := h230.mono S_
        have h235 := S_ _ _ h235
        have hl236 := hl236.mono S_
        have h243 := h243.mono S_
        have h251 := h251.mono S_
        refine ⟨_, _, R.bl, R.bl, _, rfl, ?_⟩
        refine iteD (fun q264 => ?_) (fun q264 => ?_)
        · have hk := wp_if hk q264
          refine iteT ?_
          exact hk _ _  O263.g 
        · have hk := wp_el hk q264
          obtain ⟨c265, hk⟩ := wp_chk hk
          refine ⟨_, rfl, _, rfl, _, _, (R.mono h251 O263.s), (R.mono r193 O263.s), c265, _, rfl, ?_⟩
          refine iteD (fun q266 => ?_) (fun q266 => ?_)
          · have hk := wp_if hk q266
            exact hk _ _  O263.g 
          · have hk := wp_el hk q266
            exact ⟨F260, (), some (V.ref p195), some (V.ref p245), some (V.bl r252), rfl, S185, O263, hk⟩
      rintro sg267 H268 ⟨F275, st270, t272, t273, t274, rfl, S269, O276, hL271⟩
      rw [drop_end hl174.len] at hL271
      have hk := hLd179 _ hL271
      have f_script := S269.seq f_script
      have h7 := h7.mono S269
      have h15 := h15.mono S269
      have h20 := S269 _ _ h20
      have hl21 := hl21.mono S269
      have h25 := S269 _ _ h25
      have hl26 := hl26.mono S269
      have h34 := h34.mono S269
      have h39 := S269 _ _ h39
      have hl40 := hl40.mono S269
      have S51 := S51.trans S269
      have r87 := r87.mono S269
      have h95 := h95.mono S269
      have hl144 := hl144.mono S269
      have h150 := h150.mono S269
      have h154 := S269 _ _ h154
      have hl155 := hl155.mono S269
      have h159 := S269 _ _ h159
      have hl160 := hl160.mono S269
      have h168 := h168.mono S269
      have h173 := S269 _ _ h173
      have hl174 := hl174.mono S269
      refine ⟨_, rfl, _, _, _, rfl, O276.pre0, r87, wp_call hk (fun r278 er279 hk F280 H281 g282 => ?_) (fun n hn C H1 hC kp => hn.elim)⟩
      have O283 := O276.call0 g282
      have S_ := g282.f
      have f_script := S_.seq f_script
      have h7 := h7.mono S_
      have h15 := h15.mono S_
      have h20 := S_ _ _ h20
      have hl21 := hl21.mono S_
      have h25 := S_ _ _ h25
      have hl26 := hl26.mono S_
      have h34 := h34.mono S_
      have h39 := S_ _ _ h39
      have hl40 := hl40.mono S_
      have S51 := S51.trans S_
      have r87 := r87.mono S_
      have h95 := h95.mono S_
      have hl144 := hl144.mono S_
      have h150 := h150.mono S_
      have h154 := S_ _ _ h154
      have hl155 := hl155.mono S_
      have h159 := S_ _ _ h159
      have hl160 := hl160.mono S_
      have h168 := h168.mono S_
      have h173 := S_ _ _ h173
      have hl174 := hl174.mono S_
      refine ⟨_, _, rfl, rfl, _, rfl, ?_⟩
      refine iteN (fun q284 => ?_) (fun q284 => ?_)
      · have hk := wp_if hk q284
        have O285 := O283.drop 0
        exact ⟨F280, (), some (V.int y41), some (V.ref p69), some v86, t272, t273, t274, rfl, S51, O285, hk⟩
      · have hk := wp_el hk q284
        exact hk _ _  O283.g 
    rintro sg286 H287 ⟨F297, st289, t291, t292, t293, t294, t295, t296, rfl, S288, O298, hL290⟩
    rw [drop_end hl40.len] at hL290
    have hk := hLd45 _ hL290
    have f_script := S288.seq f_script
    have h7 := h7.mono S288
    have h15 := h15.mono S288
    have h20 := S288 _ _ h20
    have hl21 := hl21.mono S288
    have h25 := S288 _ _ h25
    have hl26 := hl26.mono S288
    have h34 := h34.mono S288
    have h39 := S288 _ _ h39
    have hl40 := hl40.mono S288
    exact hk _ _  O298.g 
end
set_option maxHeartbeats 2000000
def m_law_value : Nat → Sm → (List (Str × IL)) → M (Int)
  | 0, _, _ => bad
  | k_ + 1, x_told, x_known =>
    if (Sm.word x_told) = ("number" : Str) then (
    opt (Sm.int? x_told) >>= fun y6 =>
    .ok y6)
    else (
    if (Sm.word x_told) ∈ ([(("own" : Str), ("tie" : Str)).1, (("own" : Str), ("tie" : Str)).2]) then (
    opt (dGet x_known (Sm.word x_told)) >>= fun y40 =>
    opt (IL.i? y40) >>= fun y45 =>
    .ok y45)
    else (
    if (Sm.word x_told) ∈ ([(("so" : Str), ("more" : Str)).1, (("so" : Str), ("more" : Str)).2]) then (
    opt (dGet x_known (Sm.word x_told)) >>= fun y76 =>
    opt (Sm.int? x_told) >>= fun y81 =>
    opt (IL.l? y76) >>= fun y87 =>
    opt (atI y87 y81) >>= fun y95 =>
    .ok y95)
    else (
    opt (Sm.two? x_told) >>= fun y100 =>
    compS (fun (y117 : Sm) (st134 : Unit) =>
    m_law_value k_ y117 x_known >>= fun r140 =>
    .ok (some r140, ())) ([y100.1, y100.2]) () >>= fun q157 =>
    two2 q157.1 >>= fun (x168, y169) =>
    if (Sm.word x_told) = ("times" : Str) then (
    chk (CMulW x168 y169) >>= fun _ =>
    .ok (x168 * y169))
    else (
    if (Sm.word x_told) ∈ ([(("plus" : Str), ("less" : Str)).1, (("plus" : Str), ("less" : Str)).2]) then (
    opt (atI ([(1 : Int), (-(1 : Int))]) (if (decide ((Sm.word x_told) = ("less" : Str))) = true then (1 : Int) else 0)) >>= fun y225 =>
    chk (CMulW y225 y169) >>= fun _ =>
    .ok (x168 + (y225 * y169)))
    else (
    opt (atI (sortT ([x168, y169])) (if (decide ((Sm.word x_told) = ("most" : Str))) = true then (1 : Int) else 0)) >>= fun y261 =>
    .ok y261)))))

/-! a mirror, for laws that lack it -/
def m_sum_at : Nat → Sm → Int → Int → (List Int) → (List Int) → M (Int)
  | 0, _, _, _, _, _ => bad
  | k_ + 1, x_sum_told, x_own, x_tie, x_so, x_more =>
    if (Sm.word x_sum_told) = ("number" : Str) then (
    opt (Sm.int? x_sum_told) >>= fun y6 =>
    .ok y6)
    else (
    if (Sm.word x_sum_told) = ("own" : Str) then (
    .ok x_own)
    else (
    if (Sm.word x_sum_told) = ("tie" : Str) then (
    .ok x_tie)
    else (
    if (Sm.word x_sum_told) = ("so" : Str) then (
    opt (Sm.int? x_sum_told) >>= fun y15 =>
    opt (atI x_so y15) >>= fun y26 =>
    .ok y26)
    else (
    if (Sm.word x_sum_told) = ("more" : Str) then (
    opt (Sm.int? x_sum_told) >>= fun y32 =>
    opt (atI x_more y32) >>= fun y43 =>
    .ok y43)
    else (
    opt (Sm.two? x_sum_told) >>= fun y48 =>
    compS (fun (y65 : Sm) (st82 : Unit) =>
    m_sum_at k_ y65 x_own x_tie x_so x_more >>= fun r88 =>
    .ok (some r88, ())) ([y48.1, y48.2]) () >>= fun q105 =>
    two2 q105.1 >>= fun (x116, y117) =>
    if (Sm.word x_sum_told) = ("plus" : Str) then (
    .ok (x116 + y117))
    else (
    if (Sm.word x_sum_told) = ("less" : Str) then (
    .ok (x116 - y117))
    else (
    if (Sm.word x_sum_told) = ("times" : Str) then (
    chk (CMulW x116 y117) >>= fun _ =>
    .ok (x116 * y117))
    else (
    if (Sm.word x_sum_told) = ("most" : Str) then (
    .ok (if y117 > x116 then y117 else x116))
    else (
    .ok (if y117 < x116 then y117 else x116))))))))))

/-! ### the law's own helpers -/
theorem take_ok (d m : Int) (h : 0 < m) (h2 : m ≤ 10 ^ 40) : m_law_take [d] m = .ok (d % m, [d / m]) := by
  unfold m_law_take
  rw [opt_b (show L2.atI [d] (0 : Int) = some d from rfl), chk_b h, opt_b (show L2.atI [d] (0 : Int) = some d from rfl), chk_b (cdivW h h2)]
  rfl
theorem pow10 (n : Nat) : (10 : Int) ^ n = ((10 ^ n : Nat) : Int) := by rw [Int.natCast_pow]; rfl
theorem stir_ok (c k : Int) (h : 1 ≤ k ∧ k ≤ 3) : ∃ s, m_law_stir c k = .ok s ∧ 0 ≤ s ∧ s < 10 ^ 62 := by
  unfold m_law_stir
  have e40 : (10 : Int) ^ Int.toNat (40 : Int) = 10000000000000000000000000000000000000000 := by decide
  have e60 : (3 : Int) ^ Int.toNat (60 : Int) = 42391158275216203514294433201 := by decide
  have e61 : (10 : Int) ^ Int.toNat (61 : Int) = 10000000000000000000000000000000000000000000000000000000000000 := by decide
  rw [e40, e60, e61]
  obtain ⟨r, hr⟩ : ∃ r, r = c % 10000000000000000000000000000000000000000 := ⟨_, rfl⟩
  have r0 : 0 ≤ r := by omega
  have r1 : r < 10000000000000000000000000000000000000000 := by omega
  rw [← hr]
  rw [chk_b (by decide)]
  rw [chk_b (cmulW (Nat.lt_of_lt_of_le (m := 10 ^ 40) (by omega) (by decide +kernel)) (by decide +kernel))]
  rw [chk_b (cmulW (by decide +kernel) (Nat.lt_of_lt_of_le (m := 5) (by omega) (by decide +kernel)))]
  obtain ⟨q, hq⟩ : ∃ q, q = 42391158275216203514294433201 * (k + 1) := ⟨_, rfl⟩
  have q0 : 0 ≤ q ∧ q ≤ 42391158275216203514294433201 * 4 := by omega
  rw [← hq]
  rw [chk_b (cmulW (Nat.lt_of_lt_of_le (m := 10 ^ 40) (by omega) (by decide +kernel)) (Nat.lt_of_lt_of_le (m := 5) (by omega) (by decide +kernel)))]
  have q2 : 0 ≤ q * (k + 1) ∧ q * (k + 1) ≤ 42391158275216203514294433201 * 16 := by
    have : k = 1 ∨ k = 2 ∨ k = 3 := by omega
    rcases this with rfl | rfl | rfl <;> omega
  rw [ret_b]
  obtain ⟨n, hn⟩ : ∃ n, n = r * 48271 + q * (k + 1) + k := ⟨_, rfl⟩
  rw [← hn]
  have n0 : 0 ≤ n := by omega
  have n1 : n.natAbs < 2 ^ 160 := Nat.lt_of_lt_of_le (m := 10 ^ 46) (by omega) (by decide)
  rw [chk_b (cmulW (Nat.lt_of_lt_of_le n1 (Nat.pow_le_pow_right (by decide) (by decide))) (Nat.lt_of_lt_of_le n1 (Nat.pow_le_pow_right (by decide) (by decide))))]
  rw [chk_b (cmulW (by decide +kernel) (Nat.lt_of_lt_of_le n1 (Nat.pow_le_pow_right (by decide) (by decide))))]
  rw [ret_b]
  have m1 : (n * n).natAbs < 2 ^ (160 + 160) := wide_lt n1 n1
  have m2 : ((69621 : Int) * n).natAbs < 2 ^ (17 + 160) := wide_lt (by decide) n1
  have m3 : (n * n + 69621 * n).natAbs < 2 ^ 321 := by
    have a1 := Int.natAbs_add_le (n * n) (69621 * n)
    have a2 : (2 : Nat) ^ (17 + 160) ≤ 2 ^ 320 := Nat.pow_le_pow_right (by decide) (by decide)
    have a3 : (2 : Nat) ^ 321 = 2 ^ 320 + 2 ^ 320 := by decide
    omega
  rw [chk_b (cmulW (Nat.lt_of_lt_of_le m3 (Nat.pow_le_pow_right (by decide) (by decide))) (Nat.lt_of_lt_of_le m3 (Nat.pow_le_pow_right (by decide) (by decide))))]
  rw [chk_b (by decide), chk_b (cdivW (by decide) (by decide))]
  refine ⟨_, rfl, ?_⟩
  have : (10 : Int) ^ 62 = 100000000000000000000000000000000000000000000000000000000000000 := by decide
  rw [this]
  omega
theorem deck_ok (c : Int) : ∃ d, m_law_deck c = .ok [d] := by
  unfold m_law_deck
  have e60 : (10 : Int) ^ Int.toNat (60 : Int) = 10 ^ 60 := rfl
  by_cases h : (10 : Int) ^ Int.toNat (18 : Int) ≤ c
  · rw [if_pos h]
    exact ⟨_, rfl⟩
  · rw [if_neg h]
    obtain ⟨s1, e1, a1, b1⟩ := stir_ok c 1 (by decide)
    obtain ⟨s2, e2, a2, b2⟩ := stir_ok c 2 (by decide)
    obtain ⟨s3, e3, _, _⟩ := stir_ok c 3 (by decide)
    have k62 : ((10 : Int) ^ 62).natAbs < 2 ^ 210 := by decide
    have w1 : s1.natAbs < 2 ^ 210 := wide_le a1 (Int.le_of_lt b1) k62
    have w2 : s2.natAbs < 2 ^ 210 := wide_le a2 (Int.le_of_lt b2) k62
    have k60 : ((10 : Int) ^ 60).natAbs < 2 ^ 200 := by decide
    rw [bind_ok e1, e60, chk_b (cmulW (Nat.lt_of_lt_of_le w1 (Nat.pow_le_pow_right (by decide) (by decide))) (Nat.lt_of_lt_of_le k60 (Nat.pow_le_pow_right (by decide) (by decide)))), bind_ok e2]
    have m1 : (s1 * 10 ^ 60).natAbs < 2 ^ (210 + 200) := wide_lt w1 k60
    have m2 : (s1 * 10 ^ 60 + s2).natAbs < 2 ^ 411 := by
      have x1 := Int.natAbs_add_le (s1 * 10 ^ 60) s2
      have x2 : (2 : Nat) ^ 210 ≤ 2 ^ 410 := Nat.pow_le_pow_right (by decide) (by decide)
      have x3 : (2 : Nat) ^ 411 = 2 ^ 410 + 2 ^ 410 := by decide
      omega
    rw [chk_b (cmulW (Nat.lt_of_lt_of_le m2 (Nat.pow_le_pow_right (by decide) (by decide))) (Nat.lt_of_lt_of_le k60 (Nat.pow_le_pow_right (by decide) (by decide)))), bind_ok e3]
    exact ⟨_, rfl⟩
/-- how far numbers go -/
def farB : Int := 100000000000000000000000000000
theorem take_small (d m : Int) (h : 0 < m) (h2 : m ≤ 1000000) : ∃ x d', m_law_take [d] m = .ok (x, [d']) ∧ 0 ≤ x ∧ x < m := by
  have k : (10 : Int) ^ 40 = 10000000000000000000000000000000000000000 := by decide
  exact ⟨_, _, take_ok d m h (by omega), Int.emod_nonneg _ (by omega), Int.emod_lt_of_pos _ h⟩
theorem rangeL_mem {lo hi x : Int} : x ∈ rangeL lo hi ↔ lo ≤ x ∧ x < hi := by
  unfold rangeL
  rw [List.mem_map]
  constructor
  · rintro ⟨j, hj, rfl⟩
    have := List.mem_range.mp hj
    omega
  · rintro ⟨h1, h2⟩
    exact ⟨(x - lo).toNat, List.mem_range.mpr (by omega), by omega⟩
theorem rangeL_nodup (lo hi : Int) : (rangeL lo hi).Nodup := by
  unfold rangeL
  rw [List.nodup_iff_pairwise_ne, List.pairwise_map]
  exact List.nodup_range.imp fun h e => h (by omega)
/-- an order of all places -/

theorem cut10 (ns : List Int) (k : Nat) : (cutL ns none (some (k : Int))).length ≤ ns.length := by
  unfold cutL
  rw [List.length_take, List.length_drop]
  omega
theorem at4 (k : Int) (h : 0 ≤ k) (h4 : k < 4) : ∃ x, L2.atI [(10 : Int), 10, 10, 40] k = some x ∧ (x = 10 ∨ x = 40) := by
  obtain ⟨x, e1, e2⟩ := atI_some (xs := [(10 : Int), 10, 10, 40]) h (by simpa using h4)
  refine ⟨x, e1, ?_⟩
  have hm := List.mem_of_getElem? e2
  simp only [List.mem_cons, List.not_mem_nil, or_false] at hm
  omega

theorem comp2 {i c : Type} {f : i → Unit → M (Option c × Unit)} {a b : i} {va vb : c} (ha : f a () = .ok (some va, ())) (hb : f b () = .ok (some vb, ())) : compS f [a, b] () = .ok ([va, vb], ()) := by
  unfold compS
  rw [chk_b (show [a, b].length < 16777216 by show 2 < 16777216; decide)]
  show (nox (f a ()) >>= _) = _
  rw [ha]
  show (nox (f b ()) >>= _) = _
  rw [hb]
  rfl
theorem s_no : ¬ ("own" : Str) = ("number" : Str) := by decide +kernel
theorem s_nt : ¬ ("tie" : Str) = ("number" : Str) := by decide +kernel
theorem s_ns : ¬ ("so" : Str) = ("number" : Str) := by decide +kernel
theorem s_nm : ¬ ("more" : Str) = ("number" : Str) := by decide +kernel
theorem s_to : ¬ ("tie" : Str) = ("own" : Str) := by decide +kernel
theorem s_so : ¬ ("so" : Str) = ("own" : Str) := by decide +kernel
theorem s_mo : ¬ ("more" : Str) = ("own" : Str) := by decide +kernel
theorem s_st : ¬ ("so" : Str) = ("tie" : Str) := by decide +kernel
theorem s_mt : ¬ ("more" : Str) = ("tie" : Str) := by decide +kernel
theorem s_ms : ¬ ("more" : Str) = ("so" : Str) := by decide +kernel
section
variable {own tie : Int} {so more : List Int}
def OpW (w : Str) : Prop := w = "plus" ∨ w = "less" ∨ w = "times" ∨ w = "most" ∨ w = "least"
theorem op_sum {d : Nat} {w : Str} {a b : Sm} {va vb : Int} (hw : OpW w) (ha : m_sum_at d a own tie so more = .ok va) (hb : m_sum_at d b own tie so more = .ok vb) :
    m_sum_at (d + 1) (.two w a b) own tie so more = (if w = ("plus" : Str) then .ok (va + vb) else if w = ("less" : Str) then .ok (va - vb) else if w = ("times" : Str) then (chk (CMulW va vb) >>= fun _ => .ok (va * vb)) else if w = ("most" : Str) then .ok (if vb > va then vb else va) else .ok (if vb < va then vb else va)) := by
  have h1 : ¬ w = ("number" : Str) ∧ ¬ w = ("own" : Str) ∧ ¬ w = ("tie" : Str) ∧ ¬ w = ("so" : Str) ∧ ¬ w = ("more" : Str) := by
    rcases hw with e | e | e | e | e <;> subst e <;> decide +kernel
  unfold m_sum_at
  rw [if_neg (show ¬ Sm.word (.two w a b) = _ from h1.1), if_neg (show ¬ Sm.word (.two w a b) = _ from h1.2.1), if_neg (show ¬ Sm.word (.two w a b) = _ from h1.2.2.1), if_neg (show ¬ Sm.word (.two w a b) = _ from h1.2.2.2.1), if_neg (show ¬ Sm.word (.two w a b) = _ from h1.2.2.2.2)]
  rw [opt_b (show Sm.two? (.two w a b) = some (a, b) from rfl)]
  rw [bind_ok (comp2 (va := va) (vb := vb) (by show (m_sum_at d a own tie so more >>= _) = _; rw [bind_ok ha]) (by show (m_sum_at d b own tie so more >>= _) = _; rw [bind_ok hb]))]
  rfl
theorem op_val {d : Nat} {w : Str} {a b : Sm} {va vb : Int} {kn : List (Str × IL)} (hw : OpW w) (ha : m_law_value d a kn = .ok va) (hb : m_law_value d b kn = .ok vb) :
    m_law_value (d + 1) (.two w a b) kn = (if w = ("times" : Str) then (chk (CMulW va vb) >>= fun _ => .ok (va * vb)) else if w ∈ ([("plus" : Str), "less"] : List Str) then (opt (atI [(1 : Int), -1] (if (decide (w = ("less" : Str))) = true then (1 : Int) else 0)) >>= fun y => chk (CMulW y vb) >>= fun _ => .ok (va + y * vb)) else (opt (atI (sortT [va, vb]) (if (decide (w = ("most" : Str))) = true then (1 : Int) else 0)) >>= fun y => .ok y)) := by
  have h1 : ¬ w = ("number" : Str) ∧ ¬ w ∈ ([("own" : Str), "tie"] : List Str) ∧ ¬ w ∈ ([("so" : Str), "more"] : List Str) := by
    rcases hw with e | e | e | e | e <;> subst e <;> decide +kernel
  unfold m_law_value
  rw [if_neg (show ¬ Sm.word (.two w a b) = _ from h1.1), if_neg (show ¬ Sm.word (.two w a b) ∈ ([("own" : Str), "tie"] : List Str) from h1.2.1), if_neg (show ¬ Sm.word (.two w a b) ∈ ([("so" : Str), "more"] : List Str) from h1.2.2)]
  rw [opt_b (show Sm.two? (.two w a b) = some (a, b) from rfl)]
  rw [bind_ok (comp2 (va := va) (vb := vb) (by show (m_law_value d a kn >>= _) = _; rw [bind_ok ha]) (by show (m_law_value d b kn >>= _) = _; rw [bind_ok hb]))]
  rfl
end
theorem words_at {ws : List Str} (h : ∀ w ∈ ws, OpW w) {k : Int} (k0 : 0 ≤ k) (k1 : k < ws.length) : ∃ w, L2.atI ws k = some w ∧ OpW w := by
  obtain ⟨w, e1, e2⟩ := atI_some k0 k1
  exact ⟨w, e1, h w (List.mem_of_getElem? e2)⟩

/-! ### drawn sums and rules -/
def LeafIn (ws : List Str) (many : Int) (x : Sm) : Prop := (∃ n : Int, x = .num "number" n ∧ n.natAbs < 100) ∨ (x = .nam "own" ∧ ("own" : Str) ∈ ws) ∨ (x = .nam "tie" ∧ ("tie" : Str) ∈ ws) ∨ (∃ k : Int, x = .num "so" k ∧ (0 ≤ k ∧ k < many) ∧ ("so" : Str) ∈ ws) ∨ ∃ k : Int, x = .num "more" k ∧ (0 ≤ k ∧ k < many) ∧ ("more" : Str) ∈ ws
/-- the bits of a leaf's worth -/
def lb (S M : Nat) (x : Sm) : Nat := if x.word = ("so" : Str) then S else if x.word = ("more" : Str) then M else 100
def Op4 (w : Str) : Prop := w = "plus" ∨ w = "less" ∨ w = "most" ∨ w = "least"
def Good2 (ws : List Str) (many : Int) : Nat → Sm → Prop
  | 0, _ => False
  | d + 1, x => LeafIn ws many x ∨ (∃ a b, x = .two "times" a b ∧ LeafIn ws many a ∧ LeafIn ws many b ∧ ∀ S M, lb S M a + lb S M b ≤ S + M + 200) ∨ ∃ w a b, x = .two w a b ∧ Op4 w ∧ Good2 ws many d a ∧ Good2 ws many d b
def four : List Str := ["own", "tie", "so", "more"]
theorem LeafIn.sub {ws ws' : List Str} {many : Int} {x : Sm} (h : LeafIn ws many x) (s : ∀ w ∈ ws, w ∈ ws') : LeafIn ws' many x := by
  rcases h with h | ⟨e, h⟩ | ⟨e, h⟩ | ⟨k, e, hk, h⟩ | ⟨k, e, hk, h⟩
  · exact .inl h
  · exact .inr (.inl ⟨e, s _ h⟩)
  · exact .inr (.inr (.inl ⟨e, s _ h⟩))
  · exact .inr (.inr (.inr (.inl ⟨k, e, hk, s _ h⟩)))
  · exact .inr (.inr (.inr (.inr ⟨k, e, hk, s _ h⟩)))
theorem leaf_ok2 (ws : List Str) (hw : ∀ w ∈ ws, w ∈ four) (hl : ws.length ≤ 4) (many : Int) (m1 : 1 ≤ many) (m2 : many ≤ 3) (d : Int) : ∃ x d', m_law_leaf [d] ws many = .ok (x, [d']) ∧ LeafIn ws many x := by
  obtain ⟨w, d1, e1, w0, w5⟩ := take_small d (1 + (ws.length : Int)) (by omega) (by omega)
  unfold m_law_leaf
  rw [bind_ok e1]
  show ∃ x d', (if w = 0 then _ else _) = _ ∧ _
  by_cases h0 : w = 0
  · rw [if_pos h0]
    obtain ⟨n, d2, e2, n0, n1⟩ := take_small d1 19 (by decide) (by decide)
    show ∃ x d', (m_law_take [d1] 19 >>= _) = _ ∧ _
    rw [bind_ok e2]
    exact ⟨_, d2, rfl, .inl ⟨n - 9, rfl, by omega⟩⟩
  · rw [if_neg h0]
    obtain ⟨z, a1, a2⟩ := atI_some (xs := ws) (j := w - 1) (by omega) (by omega)
    have hz := List.mem_of_getElem? a2
    rw [opt_b a1]
    by_cases hs : z ∈ ([("so" : Str), "more"] : List Str)
    · show ∃ x d', (if z ∈ ([("so" : Str), "more"] : List Str) then _ else _) = _ ∧ _
      rw [if_pos hs, opt_b a1]
      obtain ⟨k, d2, e2, k0, k1⟩ := take_small d1 many (by omega) (by omega)
      show ∃ x d', (m_law_take [d1] many >>= _) = _ ∧ _
      rw [bind_ok e2]
      rcases List.mem_cons.mp hs with e | e
      · subst e
        exact ⟨_, d2, rfl, .inr (.inr (.inr (.inl ⟨k, rfl, ⟨k0, k1⟩, hz⟩)))⟩
      · have e := List.mem_singleton.mp e
        subst e
        exact ⟨_, d2, rfl, .inr (.inr (.inr (.inr ⟨k, rfl, ⟨k0, k1⟩, hz⟩)))⟩
    · show ∃ x d', (if z ∈ ([("so" : Str), "more"] : List Str) then _ else _) = _ ∧ _
      rw [if_neg hs, opt_b a1]
      refine ⟨_, d1, rfl, ?_⟩
      have h4 := hw z hz
      unfold four at h4
      simp only [List.mem_cons, List.not_mem_nil, or_false] at h4 hs
      rcases h4 with e | e | e | e
      · subst e; exact .inr (.inl ⟨rfl, hz⟩)
      · subst e; exact .inr (.inr (.inl ⟨rfl, hz⟩))
      · exact (hs (.inl e)).elim
      · exact (hs (.inr e)).elim
theorem lb_le {ws : List Str} {many : Int} {x : Sm} (h : LeafIn ws many x) : (x.word = "so" ∧ ("so" : Str) ∈ ws) ∨ (x.word = "more" ∧ ("more" : Str) ∈ ws) ∨ (¬ x.word = ("so" : Str) ∧ ¬ x.word = ("more" : Str)) := by
  rcases h with ⟨n, e, _⟩ | ⟨e, h⟩ | ⟨e, h⟩ | ⟨k, e, hk, h⟩ | ⟨k, e, hk, h⟩
  · subst e; exact .inr (.inr ⟨fun z => s_ns z.symm, fun z => s_nm z.symm⟩)
  · subst e; exact .inr (.inr ⟨fun z => s_so z.symm, fun z => s_mo z.symm⟩)
  · subst e; exact .inr (.inr ⟨fun z => s_st z.symm, fun z => s_mt z.symm⟩)
  · subst e; exact .inl ⟨rfl, h⟩
  · subst e; exact .inr (.inl ⟨rfl, h⟩)
theorem pair_lb {ls rs : List Str} {many many' : Int} {a b : Sm} (ha : LeafIn ls many a) (hb : LeafIn rs many' b) (h1 : ¬ (("so" : Str) ∈ ls ∧ ("so" : Str) ∈ rs)) (h2 : ¬ (("more" : Str) ∈ ls ∧ ("more" : Str) ∈ rs)) (S M : Nat) : lb S M a + lb S M b ≤ S + M + 200 := by
  unfold lb
  rcases lb_le ha with ⟨e, m⟩ | ⟨e, m⟩ | ⟨e, e'⟩ <;> rcases lb_le hb with ⟨f, n⟩ | ⟨f, n⟩ | ⟨f, f'⟩
  · exact (h1 ⟨m, n⟩).elim
  · rw [if_pos e, f, if_neg s_ms, if_pos rfl]; omega
  · rw [if_pos e, if_neg f, if_neg f']; omega
  · rw [e, if_neg s_ms, if_pos rfl, if_pos f]; omega
  · exact (h2 ⟨m, n⟩).elim
  · rw [e, if_neg s_ms, if_pos rfl, if_neg f, if_neg f']; omega
  · rw [if_neg e, if_neg e', if_pos f]; omega
  · rw [if_neg e, if_neg e', f, if_neg s_ms, if_pos rfl]; omega
  · rw [if_neg e, if_neg e', if_neg f, if_neg f']; omega
theorem ops4 : ∀ w ∈ [("plus" : Str), "less", "most", "least", "plus"], Op4 w := by
  intro w hw
  unfold Op4
  simp only [List.mem_cons, List.not_mem_nil, or_false] at hw
  rcases hw with e | e | e | e | e <;> simp [e]
structure WsOk (ws : List Str) : Prop where
  four : ∀ w ∈ ws, w ∈ four
  len : ws.length ≤ 4
  cut : ∃ l r, cutL ws (some (-(1 : Int))) none = [r] ∧ cutL ws none (some (1 : Int)) = [l] ∧ l ∈ ws ∧ r ∈ ws ∧ ¬ (l = "so" ∧ r = "so") ∧ ¬ (l = "more" ∧ r = "more")
theorem sum_ok (ws : List Str) (W : WsOk ws) (many : Int) (m1 : 1 ≤ many) (m2 : many ≤ 3) (times : Bool) : ∀ (p n : Nat) (d : Int), p < n → ∃ x d', m_law_sum n [d] ws many (p : Int) times = .ok (x, [d']) ∧ Good2 ws many (p + 1) x
  | _, 0, _, h => absurd h (Nat.not_lt_zero _)
  | 0, n + 1, d, _ => by
    obtain ⟨w, d1, e1, w0, w9⟩ := take_small d 7 (by decide) (by decide)
    obtain ⟨x, d2, e2, hx⟩ := leaf_ok2 ws W.four W.len many m1 m2 d1
    unfold m_law_sum
    rw [bind_ok e1, if_pos (show ((0 : Nat) : Int) = 0 from rfl)]
    show ∃ x d', (m_law_leaf [d1] ws many >>= _) = _ ∧ _
    rw [bind_ok e2]
    exact ⟨x, d2, rfl, .inl hx⟩
  | p + 1, n + 1, d, h => by
    obtain ⟨w, d1, e1, w0, w9⟩ := take_small d 7 (by decide) (by decide)
    unfold m_law_sum
    rw [bind_ok e1, if_neg (by omega)]
    show ∃ x d', (if w < 2 then _ else _) = _ ∧ _
    by_cases hw : w < 2
    · rw [if_pos hw]
      obtain ⟨x, d2, e2, hx⟩ := leaf_ok2 ws W.four W.len many m1 m2 d1
      show ∃ x d', (m_law_leaf [d1] ws many >>= _) = _ ∧ _
      rw [bind_ok e2]
      exact ⟨x, d2, rfl, .inl hx⟩
    · rw [if_neg hw]
      obtain ⟨a, d2, e2, ha⟩ := sum_ok ws W many m1 m2 times p n d1 (by omega)
      obtain ⟨o, e3, e3'⟩ := atI_some (xs := [("plus" : Str), "less", "most", "least", "plus"]) (j := w - 2) (by omega) (by show w - 2 < ((5 : Nat) : Int); omega)
      have ho := ops4 o (List.mem_of_getElem? e3')
      obtain ⟨b, d3, e4, hb⟩ := sum_ok ws W many m1 m2 times p n d2 (by omega)
      have plain : ∃ x d', (m_law_sum n [d1] ws many (((p + 1 : Nat) : Int) - 1) times >>= fun r184 => opt (atI ([("plus" : Str), ("less" : Str), ("most" : Str), ("least" : Str), ("plus" : Str)]) (w - (2 : Int))) >>= fun y208 => m_law_sum n r184.2 ws many (((p + 1 : Nat) : Int) - 1) times >>= fun r213 => (.ok ((Sm.two (T3.mk y208 r184.1 r213.1).a (T3.mk y208 r184.1 r213.1).b (T3.mk y208 r184.1 r213.1).c), r213.2) : M _)) = .ok (x, [d']) ∧ Good2 ws many (p + 1 + 1) x := by
        rw [show (((p + 1 : Nat) : Int) - 1) = (p : Int) by omega]
        rw [bind_ok e2, opt_b e3]
        show ∃ x d', (m_law_sum n [d2] ws many (p : Int) times >>= _) = _ ∧ _
        rw [bind_ok e4]
        exact ⟨_, d3, rfl, .inr (.inr ⟨o, a, b, rfl, ho, ha, hb⟩)⟩
      show ∃ x d', (if w = 6 then _ else _) = _ ∧ _
      by_cases h6 : w = 6
      · rw [if_pos h6]
        cases times with
        | false =>
          rw [if_neg Bool.false_ne_true]
          exact plain
        | true =>
          rw [if_pos rfl]
          obtain ⟨l, r, c1, c2, hl, hr, n1, n2⟩ := W.cut
          have sub1 : ∀ (y : Str), y ∈ ws → ∀ z ∈ [y], z ∈ ws := fun y hy z hz => by rw [List.mem_singleton.mp hz]; exact hy
          obtain ⟨x1, f1, g1, q1⟩ := leaf_ok2 [r] (fun z hz => W.four z (sub1 r hr z hz)) (by simp) many m1 m2 d1
          obtain ⟨x2, f2, g2, q2⟩ := leaf_ok2 [] (fun _ h => nomatch h) (by simp) 1 (by omega) (by omega) f1
          obtain ⟨x3, f3, g3, q3⟩ := leaf_ok2 [l] (fun z hz => W.four z (sub1 l hl z hz)) (by simp) many m1 m2 f2
          obtain ⟨j, f4, g4, j0, j2⟩ := take_small f3 2 (by decide) (by decide)
          rw [c1, c2]
          show ∃ x d', (m_law_leaf [d1] [r] many >>= _) = _ ∧ _
          rw [bind_ok g1]
          show ∃ x d', (m_law_leaf [f1] [] 1 >>= _) = _ ∧ _
          rw [bind_ok g2]
          show ∃ x d', (m_law_leaf [f2] [l] many >>= _) = _ ∧ _
          rw [bind_ok g3]
          show ∃ x d', (m_law_take [f3] 2 >>= _) = _ ∧ _
          rw [bind_ok g4]
          have q2' : LeafIn [] many x2 := by
            rcases q2 with z | ⟨_, z⟩ | ⟨_, z⟩ | ⟨_, _, _, z⟩ | ⟨_, _, _, z⟩
            · exact .inl z
            all_goals cases z
          have hj : j = 0 ∨ j = 1 := by omega
          rcases hj with e | e
          · subst e
            refine ⟨_, f4, rfl, .inr (.inl ⟨x2, x1, rfl, q2'.sub (fun _ h => nomatch h), q1.sub (sub1 r hr), pair_lb q2' q1 (fun z => absurd z.1 List.not_mem_nil) (fun z => absurd z.1 List.not_mem_nil)⟩)⟩
          · subst e
            refine ⟨_, f4, rfl, .inr (.inl ⟨x3, x1, rfl, q3.sub (sub1 l hl), q1.sub (sub1 r hr), pair_lb q3 q1 (fun z => n1 ⟨(List.mem_singleton.mp z.1).symm, (List.mem_singleton.mp z.2).symm⟩) (fun z => n2 ⟨(List.mem_singleton.mp z.1).symm, (List.mem_singleton.mp z.2).symm⟩)⟩)⟩
      · rw [if_neg h6]
        exact plain

abbrev Rule := T4 (List Sm) (List Sm) (List Sm) Sm
def wsB : List Str := ["own"]
def wsO : List Str := ["more", "own", "tie"]
def wsJ : List Str := ["so", "own", "more"]
def wsT : List Str := ["so", "own"]
theorem okB : WsOk wsB := ⟨by decide +kernel, by decide +kernel, "own", "own", rfl, rfl, by decide +kernel, by decide +kernel, by decide +kernel, by decide +kernel⟩
theorem okO : WsOk wsO := ⟨by decide +kernel, by decide +kernel, "more", "tie", rfl, rfl, by decide +kernel, by decide +kernel, by decide +kernel, by decide +kernel⟩
theorem okJ : WsOk wsJ := ⟨by decide +kernel, by decide +kernel, "so", "more", rfl, rfl, by decide +kernel, by decide +kernel, by decide +kernel, by decide +kernel⟩
theorem okT : WsOk wsT := ⟨by decide +kernel, by decide +kernel, "so", "own", rfl, rfl, by decide +kernel, by decide +kernel, by decide +kernel, by decide +kernel⟩
structure RuleOk (r : Rule) (many : Int) : Prop where
  m1 : 1 ≤ many
  m2 : many ≤ 3
  la : (r.a.length : Int) = many
  lb : (r.b.length : Int) = many
  lc : (r.c.length : Int) = many
  ga : ∀ x ∈ r.a, Good2 wsB many 3 x
  gb : ∀ x ∈ r.b, Good2 wsO many 3 x
  gc : ∀ x ∈ r.c, Good2 wsJ many 3 x
  gd : Good2 wsT many 3 r.d
theorem sums_ok (ws : List Str) (W : WsOk ws) (many : Int) (m1 : 1 ≤ many) (m2 : many ≤ 3) (times : Bool) (d : Int) :
    ∃ xs d', compS (fun (y74 : Int) (st92 : (List Int)) =>
      m_law_sum 5 st92 ws many (2 : Int) times >>= fun r98 =>
      .ok (some r98.1, r98.2)) (rangeL 0 many) [d] = .ok (xs, [d']) ∧ (xs.length : Int) = many ∧ ∀ x ∈ xs, Good2 ws many 3 x := by
  obtain ⟨acc, st, e, ⟨d', hd⟩, h3, h4⟩ := compS_run (f := fun (y74 : Int) (st92 : (List Int)) =>
      m_law_sum 5 st92 ws many (2 : Int) times >>= fun r98 =>
      .ok (some r98.1, r98.2)) (all := rangeL 0 many) (by rw [rangeL_length]; omega)
    (fun pre acc st => (∃ d', st = [d']) ∧ acc.length = pre.length ∧ ∀ x ∈ acc, Good2 ws many 3 x) (x := [d]) ⟨⟨d, rfl⟩, rfl, fun _ h => nomatch h⟩ fun pre y post acc st _ ⟨⟨d', hd⟩, h3, h4⟩ => by
      subst hd
      obtain ⟨x, d2, e, hx⟩ := sum_ok ws W many m1 m2 times 2 5 d' (by decide)
      refine ⟨some x, [d2], by rw [bind_ok (show m_law_sum 5 [d'] ws many (2 : Int) times = _ from e)], ⟨d2, rfl⟩, by rw [List.length_append, List.length_append, h3, List.length_singleton, List.length_singleton], fun z hz => ?_⟩
      rcases List.mem_append.mp hz with hz | hz
      · exact h4 z hz
      · rw [List.mem_singleton.mp hz]; exact hx
  subst hd
  rw [rangeL_length] at h3
  exact ⟨acc, d', e, by omega, h4⟩
theorem loop3 {i s : Type} {f : i → s → M s} {a b c : i} {x x1 x2 x3 : s} (h1 : f a x = .ok x1) (h2 : f b x1 = .ok x2) (h3 : f c x2 = .ok x3) : loopN f [a, b, c] x = .ok x3 := by
  show (f a x >>= _) = _
  rw [bind_ok h1]
  show (f b x1 >>= _) = _
  rw [bind_ok h2]
  show (f c x2 >>= _) = _
  rw [bind_ok h3]
  rfl
theorem rule_ok (d : Int) (times : Bool) : ∃ r d' many, m_law_rule [d] times = .ok (r, [d']) ∧ RuleOk r many := by
  obtain ⟨k, d1, e1, k0, k3⟩ := take_small d 3 (by decide) (by decide)
  have m1 : 1 ≤ 1 + k := by omega
  have m2 : 1 + k ≤ 3 := by omega
  obtain ⟨xa, d2, ea, la, ga⟩ := sums_ok wsB okB (1 + k) m1 m2 times d1
  obtain ⟨xb, d3, eb, lb, gb⟩ := sums_ok wsO okO (1 + k) m1 m2 times d2
  obtain ⟨xc, d4, ec, lc, gc⟩ := sums_ok wsJ okJ (1 + k) m1 m2 times d3
  obtain ⟨xd, d5, ed, gd⟩ := sum_ok wsT okT (1 + k) m1 m2 times 2 5 d4 (by decide)
  refine ⟨⟨xa, xb, xc, xd⟩, d5, 1 + k, ?_, ⟨m1, m2, la, lb, lc, ga, gb, gc, gd⟩⟩
  unfold m_law_rule
  rw [bind_ok e1]
  have ok : okR (1 + k) := ⟨by omega, by omega⟩
  rw [bind_ok (loop3 (x1 := ([xa], [d2])) (x2 := ([xa, xb], [d3])) (x3 := ([xa, xb, xc], [d4])) (by
      show (chk (okR (1 + k)) >>= _) = _
      rw [chk_b ok]
      exact (bind_ok ea _).trans rfl) (by
      show (chk (okR (1 + k)) >>= _) = _
      rw [chk_b ok]
      exact (bind_ok eb _).trans rfl) (by
      show (chk (okR (1 + k)) >>= _) = _
      rw [chk_b ok]
      exact (bind_ok ec _).trans rfl))]
  rw [opt_b (show L2.atI [xa, xb, xc] (0 : Int) = some xa from rfl), opt_b (show L2.atI [xa, xb, xc] (1 : Int) = some xb from rfl), opt_b (show L2.atI [xa, xb, xc] (2 : Int) = some xc from rfl)]
  show (m_law_sum 5 [d4] wsT (1 + k) (2 : Int) times >>= _) = _
  rw [bind_ok (show m_law_sum 5 [d4] wsT (1 + k) (2 : Int) times = _ from ed)]
theorem may_leaf {ws ws' : List Str} {many : Int} (s : ∀ w ∈ ws, w ∈ ws') (n : Nat) {x : Sm} (h : LeafIn ws many x) : m_may_stand (n + 1) x ⟨ws'⟩ many = .ok true := by
  unfold m_may_stand
  rcases h with ⟨k, e, _⟩ | ⟨e, h⟩ | ⟨e, h⟩ | ⟨k, e, hk, h⟩ | ⟨k, e, hk, h⟩
  · subst e
    rw [if_pos (show Sm.word (.num "number" k) = ("number" : Str) from rfl)]
  · subst e
    rw [if_neg (show ¬ Sm.word (.nam "own") = ("number" : Str) from s_no), if_pos (show Sm.word (.nam "own") ∈ ([("own" : Str), "tie"] : List Str) from List.mem_cons_self)]
    exact congrArg Except.ok (decide_eq_true (s _ h))
  · subst e
    rw [if_neg (show ¬ Sm.word (.nam "tie") = ("number" : Str) from s_nt), if_pos (show Sm.word (.nam "tie") ∈ ([("own" : Str), "tie"] : List Str) from List.mem_cons_of_mem _ List.mem_cons_self)]
    exact congrArg Except.ok (decide_eq_true (s _ h))
  · subst e
    rw [if_neg (show ¬ Sm.word (.num "so" k) = ("number" : Str) from s_ns), if_neg (show ¬ Sm.word (.num "so" k) ∈ ([("own" : Str), "tie"] : List Str) from fun z => by
      rcases List.mem_cons.mp z with z | z
      · exact s_so z
      · exact s_st (List.mem_singleton.mp z)), if_pos (show Sm.word (.num "so" k) ∈ ([("so" : Str), "more"] : List Str) from List.mem_cons_self), if_pos (show Sm.word (.num "so" k) ∈ ws' from s _ h)]
    rw [opt_b (show Sm.int? (.num "so" k) = some k from rfl), if_pos hk.1]
    exact congrArg Except.ok (decide_eq_true hk.2)
  · subst e
    rw [if_neg (show ¬ Sm.word (.num "more" k) = ("number" : Str) from s_nm), if_neg (show ¬ Sm.word (.num "more" k) ∈ ([("own" : Str), "tie"] : List Str) from fun z => by
      rcases List.mem_cons.mp z with z | z
      · exact s_mo z
      · exact s_mt (List.mem_singleton.mp z)), if_pos (show Sm.word (.num "more" k) ∈ ([("so" : Str), "more"] : List Str) from List.mem_cons_of_mem _ List.mem_cons_self), if_pos (show Sm.word (.num "more" k) ∈ ws' from s _ h)]
    rw [opt_b (show Sm.int? (.num "more" k) = some k from rfl), if_pos hk.1]
    exact congrArg Except.ok (decide_eq_true hk.2)
theorem may_two {ws' : List Str} {many : Int} {n : Nat} {w : Str} {a b : Sm} (hw : OpW w) (ha : m_may_stand n a ⟨ws'⟩ many = .ok true) (hb : m_may_stand n b ⟨ws'⟩ many = .ok true) : m_may_stand (n + 1) (.two w a b) ⟨ws'⟩ many = .ok true := by
  have h1 : ¬ w = ("number" : Str) ∧ ¬ w ∈ ([("own" : Str), "tie"] : List Str) ∧ ¬ w ∈ ([("so" : Str), "more"] : List Str) := by
    rcases hw with e | e | e | e | e <;> subst e <;> decide +kernel
  unfold m_may_stand
  rw [if_neg (show ¬ Sm.word (.two w a b) = _ from h1.1), if_neg (show ¬ Sm.word (.two w a b) ∈ ([("own" : Str), "tie"] : List Str) from h1.2.1), if_neg (show ¬ Sm.word (.two w a b) ∈ ([("so" : Str), "more"] : List Str) from h1.2.2)]
  rw [opt_b (show Sm.two? (.two w a b) = some (a, b) from rfl)]
  show (m_may_stand n a ⟨ws'⟩ many >>= _) = _
  rw [bind_ok ha, if_pos rfl, opt_b (show Sm.two? (.two w a b) = some (a, b) from rfl)]
  show (m_may_stand n b ⟨ws'⟩ many >>= _) = _
  rw [bind_ok hb]
theorem op4w {w : Str} (h : Op4 w) : OpW w := by
  rcases h with e | e | e | e
  · exact .inl e
  · exact .inr (.inl e)
  · exact .inr (.inr (.inr (.inl e)))
  · exact .inr (.inr (.inr (.inr e)))
theorem may_ok {ws ws' : List Str} {many : Int} (s : ∀ w ∈ ws, w ∈ ws') : ∀ (n d : Nat) (x : Sm), d + 1 ≤ n → Good2 ws many d x → m_may_stand n x ⟨ws'⟩ many = .ok true
  | 0, _, _, h, _ => absurd h (by omega)
  | _, 0, _, _, h => h.elim
  | n + 1, d + 1, x, hn, h => by
    rcases h with h | ⟨a, b, e, ha, hb, _⟩ | ⟨w, a, b, e, hw, ha, hb⟩
    · exact may_leaf s n h
    · subst e
      obtain ⟨n', rfl⟩ : ∃ n', n = n' + 1 := ⟨n - 1, by omega⟩
      exact may_two (.inr (.inr (.inl rfl))) (may_leaf s n' ha) (may_leaf s n' hb)
    · subst e
      exact may_two (op4w hw) (may_ok s n d a (by omega) ha) (may_ok s n d b (by omega) hb)
theorem is_rule_ok {r : Rule} {many : Int} (R : RuleOk r many) : m_is_rule r = .ok true := by
  have h1 := R.la
  have h2 := R.lb
  have h3 := R.lc
  have m1 := R.m1
  have m2 := R.m2
  unfold m_is_rule
  rw [if_pos (by omega), if_pos (by omega), if_neg (by omega), if_neg (by omega), h1]
  have one : ∀ (xs : List Sm) (ws ws' : List Str), xs.length < 16777216 → (∀ x ∈ xs, Good2 ws many 3 x) → (∀ w ∈ ws, w ∈ ws') →
      (compS (fun (y123 : Sm) (st140 : Unit) =>
        m_may_stand 60 y123 ⟨ws'⟩ many >>= fun r146 =>
        if r146 = true then (
        .ok (none, ()))
        else (
        .ok (some y123, ()))) xs () >>= fun q164 =>
        if q164.1 ≠ ([] : List Sm) then (
        .ok (.rt false))
        else (
        (.ok (.nx ()) : M (Fl Unit Bool)))) = .ok (.nx ()) := fun xs ws ws' hl hg hs => by
    rw [bind_ok (compS_pure (fun _ => none) hl fun y hy => by rw [bind_ok (may_ok hs 60 3 y (by decide) (hg y hy)), if_pos rfl])]
    rw [if_neg (by
      intro z
      refine z ?_
      show List.filterMap _ _ = []
      rw [List.filterMap_eq_nil_iff]
      exact fun _ _ => rfl)]
  rw [bind_ok (loopM_all fun y hy => by
    simp only [List.mem_cons, List.not_mem_nil, or_false] at hy
    rcases hy with e | e | e
    · subst e; exact one r.a wsB _ (by omega) R.ga (by decide +kernel)
    · subst e; exact one r.b wsO _ (by omega) R.gb (by decide +kernel)
    · subst e; exact one r.c wsJ _ (by omega) R.gc (by decide +kernel))]
  show (m_may_stand 60 r.d ⟨[("own" : Str), "so"]⟩ many >>= _) = _
  rw [bind_ok (may_ok (ws := wsT) (by decide +kernel) 60 3 r.d (by decide) R.gd)]

/-! ### sums of any words, and which of them may stand -/
def Lf (x : Sm) : Prop := (∃ n : Int, x = .num "number" n) ∨ x = .nam "own" ∨ x = .nam "tie" ∨ (∃ k : Int, x = .num "so" k) ∨ ∃ k : Int, x = .num "more" k
def Sh : Nat → Sm → Prop
  | 0, _ => False
  | d + 1, x => Lf x ∨ ∃ w a b, x = .two w a b ∧ OpW w ∧ Sh d a ∧ Sh d b
theorem sh_up : ∀ {d e : Nat} {x : Sm}, Sh d x → d ≤ e → Sh e x
  | 0, _, _, h, _ => h.elim
  | d + 1, 0, _, _, l => absurd l (by omega)
  | d + 1, e + 1, x, h, l => by
    rcases h with h | ⟨w, a, b, z, hw, ha, hb⟩
    · exact .inl h
    · exact .inr ⟨w, a, b, z, hw, sh_up ha (by omega), sh_up hb (by omega)⟩
theorem sh_good {ws : List Str} {many : Int} : ∀ {d : Nat} {x : Sm}, Good2 ws many d x → Sh (d + 1) x
  | 0, _, h => h.elim
  | d + 1, x, h => by
    have leaf : ∀ {x : Sm}, LeafIn ws many x → Lf x := fun {x} h => by
      rcases h with ⟨n, e, _⟩ | ⟨e, _⟩ | ⟨e, _⟩ | ⟨k, e, _⟩ | ⟨k, e, _⟩
      · exact .inl ⟨n, e⟩
      · exact .inr (.inl e)
      · exact .inr (.inr (.inl e))
      · exact .inr (.inr (.inr (.inl ⟨k, e⟩)))
      · exact .inr (.inr (.inr (.inr ⟨k, e⟩)))
    rcases h with h | ⟨a, b, e, ha, hb, _⟩ | ⟨w, a, b, e, hw, ha, hb⟩
    · exact .inl (leaf h)
    · exact .inr ⟨_, a, b, e, .inr (.inr (.inl rfl)), .inl (leaf ha), .inl (leaf hb)⟩
    · exact .inr ⟨w, a, b, e, op4w hw, sh_good ha, sh_good hb⟩
/-- whether a leaf may stand -/
def lfOk (may : List Str) (many : Int) : Sm → Bool
  | .num w k => decide (w = ("number" : Str)) || (decide (w ∈ may) && decide (0 ≤ k) && decide (k < many))
  | .nam w => decide (w ∈ may)
  | .two _ _ _ => false
def mayB (may : List Str) (many : Int) : Sm → Bool
  | .two _ a b => mayB may many a && mayB may many b
  | .num w k => lfOk may many (.num w k)
  | .nam w => lfOk may many (.nam w)
theorem mayB_num {may : List Str} {many : Int} {w : Str} {k : Int} : mayB may many (.num w k) = (decide (w = ("number" : Str)) || (decide (w ∈ may) && decide (0 ≤ k) && decide (k < many))) := rfl
theorem may_lf {may : List Str} {many : Int} {x : Sm} (h : Lf x) (n : Nat) : m_may_stand (n + 1) x ⟨may⟩ many = .ok (mayB may many x) := by
  unfold m_may_stand
  rcases h with ⟨k, e⟩ | e | e | ⟨k, e⟩ | ⟨k, e⟩
  · subst e
    rw [if_pos (show Sm.word (.num "number" k) = ("number" : Str) from rfl)]
    rw [mayB_num, decide_eq_true rfl, Bool.true_or]
  · subst e
    rw [if_neg (show ¬ Sm.word (.nam "own") = ("number" : Str) from s_no), if_pos (show Sm.word (.nam "own") ∈ ([("own" : Str), "tie"] : List Str) from List.mem_cons_self)]
    rfl
  · subst e
    rw [if_neg (show ¬ Sm.word (.nam "tie") = ("number" : Str) from s_nt), if_pos (show Sm.word (.nam "tie") ∈ ([("own" : Str), "tie"] : List Str) from List.mem_cons_of_mem _ List.mem_cons_self)]
    rfl
  · subst e
    rw [if_neg (show ¬ Sm.word (.num "so" k) = ("number" : Str) from s_ns), if_neg (show ¬ Sm.word (.num "so" k) ∈ ([("own" : Str), "tie"] : List Str) from fun z => by
      rcases List.mem_cons.mp z with z | z
      · exact s_so z
      · exact s_st (List.mem_singleton.mp z)), if_pos (show Sm.word (.num "so" k) ∈ ([("so" : Str), "more"] : List Str) from List.mem_cons_self)]
    have e : mayB may many (.num "so" k) = (decide (("so" : Str) ∈ may) && decide (0 ≤ k) && decide (k < many)) := by
      rw [mayB_num, decide_eq_false s_ns, Bool.false_or]
    rw [e]
    by_cases hm : ("so" : Str) ∈ may
    · rw [if_pos (show Sm.word (.num "so" k) ∈ may from hm), opt_b (show Sm.int? (.num "so" k) = some k from rfl), decide_eq_true hm, Bool.true_and]
      by_cases h0 : 0 ≤ k
      · rw [if_pos h0, decide_eq_true h0, Bool.true_and]
      · rw [if_neg h0, decide_eq_false h0, Bool.false_and]
    · rw [if_neg (show ¬ Sm.word (.num "so" k) ∈ may from hm), decide_eq_false hm, Bool.false_and, Bool.false_and]
  · subst e
    rw [if_neg (show ¬ Sm.word (.num "more" k) = ("number" : Str) from s_nm), if_neg (show ¬ Sm.word (.num "more" k) ∈ ([("own" : Str), "tie"] : List Str) from fun z => by
      rcases List.mem_cons.mp z with z | z
      · exact s_mo z
      · exact s_mt (List.mem_singleton.mp z)), if_pos (show Sm.word (.num "more" k) ∈ ([("so" : Str), "more"] : List Str) from List.mem_cons_of_mem _ List.mem_cons_self)]
    have e : mayB may many (.num "more" k) = (decide (("more" : Str) ∈ may) && decide (0 ≤ k) && decide (k < many)) := by
      rw [mayB_num, decide_eq_false s_nm, Bool.false_or]
    rw [e]
    by_cases hm : ("more" : Str) ∈ may
    · rw [if_pos (show Sm.word (.num "more" k) ∈ may from hm), opt_b (show Sm.int? (.num "more" k) = some k from rfl), decide_eq_true hm, Bool.true_and]
      by_cases h0 : 0 ≤ k
      · rw [if_pos h0, decide_eq_true h0, Bool.true_and]
      · rw [if_neg h0, decide_eq_false h0, Bool.false_and]
    · rw [if_neg (show ¬ Sm.word (.num "more" k) ∈ may from hm), decide_eq_false hm, Bool.false_and, Bool.false_and]
theorem may_val {may : List Str} {many : Int} : ∀ (n d : Nat) (x : Sm), d ≤ n → Sh d x → m_may_stand n x ⟨may⟩ many = .ok (mayB may many x)
  | _, 0, _, _, h => h.elim
  | 0, d + 1, _, l, _ => absurd l (by omega)
  | n + 1, d + 1, x, l, h => by
    rcases h with h | ⟨w, a, b, e, hw, ha, hb⟩
    · exact may_lf h n
    · subst e
      have h1 : ¬ w = ("number" : Str) ∧ ¬ w ∈ ([("own" : Str), "tie"] : List Str) ∧ ¬ w ∈ ([("so" : Str), "more"] : List Str) := by
        rcases hw with e | e | e | e | e <;> subst e <;> decide +kernel
      unfold m_may_stand
      rw [if_neg (show ¬ Sm.word (.two w a b) = _ from h1.1), if_neg (show ¬ Sm.word (.two w a b) ∈ ([("own" : Str), "tie"] : List Str) from h1.2.1), if_neg (show ¬ Sm.word (.two w a b) ∈ ([("so" : Str), "more"] : List Str) from h1.2.2)]
      rw [opt_b (show Sm.two? (.two w a b) = some (a, b) from rfl)]
      show (m_may_stand n a ⟨may⟩ many >>= _) = _
      rw [bind_ok (may_val n d a (by omega) ha)]
      show _ = Except.ok (mayB may many a && mayB may many b)
      by_cases z : mayB may many a = true
      · rw [if_pos z, opt_b (show Sm.two? (.two w a b) = some (a, b) from rfl)]
        show (m_may_stand n b ⟨may⟩ many >>= _) = _
        rw [bind_ok (may_val n d b (by omega) hb), z, Bool.true_and]
      · rw [if_neg z, Bool.eq_false_iff.mpr z, Bool.false_and]
/-- loops that end where a test fails -/
theorem loopM_test {i r : Type} {f : i → Unit → M (Fl Unit r)} {z : r} (p : i → Bool) : ∀ {xs : List i}, (∀ y ∈ xs, f y () = if p y = true then .ok (.nx ()) else .ok (.rt z)) → loopM f xs () = if xs.all p = true then .ok (.nx ()) else .ok (.rt z)
  | [], _ => rfl
  | x :: xs, h => by
    have h1 := h x List.mem_cons_self
    have h2 := loopM_test p (fun y hy => h y (List.mem_cons_of_mem _ hy))
    show (f x () >>= _) = _
    rw [h1, List.all_cons]
    by_cases e : p x = true
    · rw [if_pos e, e, Bool.true_and, ← h2]
      rfl
    · rw [if_neg e, Bool.eq_false_iff.mpr e, Bool.false_and, if_neg Bool.false_ne_true]
      rfl
structure RSh (r : Rule) : Prop where
  la : r.a.length ≤ 1000
  lb : r.b.length ≤ 1000
  lc : r.c.length ≤ 1000
  sa : ∀ x ∈ r.a, Sh 10 x
  sb : ∀ x ∈ r.b, Sh 10 x
  sc : ∀ x ∈ r.c, Sh 10 x
  sd : Sh 10 r.d
abbrev mB : List Str := ["own"]
abbrev mO : List Str := ["own", "tie", "more"]
abbrev mJ : List Str := ["own", "so", "more"]
abbrev mT : List Str := ["own", "so"]
def sumsB (r : Rule) : Bool := r.a.all (mayB mB r.a.length) && r.b.all (mayB mO r.a.length) && r.c.all (mayB mJ r.a.length) && mayB mT r.a.length r.d
def ruleB (r : Rule) : Bool := decide (1 ≤ r.a.length ∧ r.a.length ≤ 3 ∧ r.b.length = r.a.length ∧ r.c.length = r.a.length) && sumsB r
theorem is_rule_val {r : Rule} (R : RSh r) : m_is_rule r = .ok (ruleB r) := by
  have h1 := R.la
  have h2 := R.lb
  have h3 := R.lc
  unfold m_is_rule ruleB
  by_cases c1 : (1 : Int) ≤ (r.a.length : Int)
  · rw [if_pos c1]
    by_cases c2 : (r.a.length : Int) ≤ 3
    · rw [if_pos c2]
      by_cases c3 : (r.b.length : Int) = (r.a.length : Int)
      · rw [if_neg (fun z => z c3)]
        by_cases c4 : (r.c.length : Int) = (r.a.length : Int)
        · rw [if_neg (fun z => z c4), decide_eq_true (show 1 ≤ r.a.length ∧ r.a.length ≤ 3 ∧ r.b.length = r.a.length ∧ r.c.length = r.a.length by omega), Bool.true_and]
          have one : ∀ (xs : List Sm) (may : List Str), xs.length < 16777216 → (∀ x ∈ xs, Sh 10 x) →
              (compS (fun (y123 : Sm) (st140 : Unit) =>
                m_may_stand 60 y123 ⟨may⟩ (r.a.length : Int) >>= fun r146 =>
                if r146 = true then (
                .ok (none, ()))
                else (
                .ok (some y123, ()))) xs () >>= fun q164 =>
                if q164.1 ≠ ([] : List Sm) then (
                .ok (.rt false))
                else (
                (.ok (.nx ()) : M (Fl Unit Bool)))) = if xs.all (mayB may (r.a.length : Int)) = true then .ok (.nx ()) else .ok (.rt false) := fun xs may hl hs => by
            rw [bind_ok (compS_pure (fun y => if mayB may (r.a.length : Int) y = true then none else some y) hl fun y hy => by
              rw [bind_ok (may_val 60 10 y (by decide) (hs y hy))]
              by_cases z : mayB may (r.a.length : Int) y = true
              · rw [if_pos z, if_pos z]
              · rw [if_neg z, if_neg z])]
            by_cases z : xs.all (mayB may (r.a.length : Int)) = true
            · rw [if_pos z, if_neg]
              intro q
              refine q ?_
              show List.filterMap _ _ = []
              rw [List.filterMap_eq_nil_iff]
              exact fun y hy => if_pos (List.all_eq_true.mp z y hy)
            · rw [if_neg z, if_pos]
              intro q
              have q : List.filterMap _ xs = [] := q
              rw [List.filterMap_eq_nil_iff] at q
              refine z (List.all_eq_true.mpr fun y hy => ?_)
              have := q y hy
              by_cases u : mayB may (r.a.length : Int) y = true
              · exact u
              · rw [if_neg u] at this; exact nomatch this
          rw [loopM_test (z := false) (fun (y : List Sm × Tp Str) => y.1.all (mayB y.2.l (r.a.length : Int))) (fun y hy => by
            simp only [List.mem_cons, List.not_mem_nil, or_false] at hy
            rcases hy with e | e | e
            · subst e; exact one r.a mB (by omega) R.sa
            · subst e; exact one r.b mO (by omega) R.sb
            · subst e; exact one r.c mJ (by omega) R.sc)]
          have ea : (([(r.a, Tp.mk mB), (r.b, Tp.mk mO), (r.c, Tp.mk mJ)] : List (List Sm × Tp Str)).all (fun (y : List Sm × Tp Str) => y.1.all (mayB y.2.l (r.a.length : Int)))) = (r.a.all (mayB mB r.a.length) && r.b.all (mayB mO r.a.length) && r.c.all (mayB mJ r.a.length)) := by
            show (_ && (_ && (_ && true))) = _
            rw [Bool.and_true, ← Bool.and_assoc]
          refine (congrArg (· >>= _) (congrArg (fun (c : Bool) => if c = true then (.ok (.nx ()) : M (Fl Unit Bool)) else .ok (.rt false)) ea)).trans ?_
          unfold sumsB
          by_cases z : (r.a.all (mayB mB r.a.length) && r.b.all (mayB mO r.a.length) && r.c.all (mayB mJ r.a.length)) = true
          · rw [z, Bool.true_and]
            show (m_may_stand 60 r.d ⟨mT⟩ (r.a.length : Int) >>= _) = _
            rw [bind_ok (may_val 60 10 r.d (by decide) R.sd)]
          · rw [Bool.eq_false_iff.mpr z, Bool.false_and]
            rfl
        · rw [if_pos c4, decide_eq_false (by omega), Bool.false_and]
      · rw [if_pos c3, decide_eq_false (by omega), Bool.false_and]
    · rw [if_neg c2, decide_eq_false (by omega), Bool.false_and]
  · rw [if_neg c1, decide_eq_false (by omega), Bool.false_and]

/-! ### the law's own look at the words -/
def words : Sm → List Sm
  | .two _ a b => words a ++ words b
  | .num w k => [.num w k]
  | .nam w => [.nam w]
theorem lf_words {x : Sm} (h : Lf x) : words x = [x] := by
  rcases h with ⟨k, e⟩ | e | e | ⟨k, e⟩ | ⟨k, e⟩ <;> subst e <;> rfl
theorem words_len : ∀ {d : Nat} {x : Sm}, Sh d x → (words x).length ≤ 2 ^ d
  | 0, _, h => h.elim
  | d + 1, x, h => by
    rcases h with h | ⟨w, a, b, e, hw, ha, hb⟩
    · rw [lf_words h]; exact Nat.one_le_two_pow
    · subst e
      have h1 := words_len ha
      have h2 := words_len hb
      show (words a ++ words b).length ≤ _
      rw [List.length_append, Nat.pow_succ]
      omega
theorem words_lf : ∀ {d : Nat} {x : Sm}, Sh d x → ∀ y ∈ words x, Lf y
  | 0, _, h => h.elim
  | d + 1, x, h => by
    rcases h with h | ⟨w, a, b, e, hw, ha, hb⟩
    · rw [lf_words h]
      intro y hy
      rw [List.mem_singleton.mp hy]
      exact h
    · subst e
      intro y hy
      rcases List.mem_append.mp (show y ∈ words a ++ words b from hy) with hy | hy
      · exact words_lf ha y hy
      · exact words_lf hb y hy
theorem words_may {may : List Str} {many : Int} : ∀ {d : Nat} {x : Sm}, Sh d x → (words x).all (mayB may many) = mayB may many x
  | 0, _, h => h.elim
  | d + 1, x, h => by
    rcases h with h | ⟨w, a, b, e, hw, ha, hb⟩
    · rw [lf_words h]
      show (mayB may many x && true) = _
      rw [Bool.and_true]
    · subst e
      show (words a ++ words b).all _ = (mayB may many a && mayB may many b)
      rw [List.all_append, words_may ha, words_may hb]
abbrev five : List Str := ["number", "own", "tie", "so", "more"]
theorem words_ok : ∀ (n d : Nat) (x : Sm), d ≤ n → d ≤ 12 → Sh d x → m_law_words n x = .ok (words x)
  | _, 0, _, _, _, h => h.elim
  | 0, d + 1, _, l, _, _ => absurd l (by omega)
  | n + 1, d + 1, x, l, l2, h => by
    unfold m_law_words
    rcases h with h | ⟨w, a, b, e, hw, ha, hb⟩
    · rw [lf_words h, if_pos]
      show Sm.word x ∈ five
      rcases h with ⟨k, e⟩ | e | e | ⟨k, e⟩ | ⟨k, e⟩ <;> subst e
      · show ("number" : Str) ∈ five; decide +kernel
      · show ("own" : Str) ∈ five; decide +kernel
      · show ("tie" : Str) ∈ five; decide +kernel
      · show ("so" : Str) ∈ five; decide +kernel
      · show ("more" : Str) ∈ five; decide +kernel
    · subst e
      have hn : ¬ w ∈ five := by
        rcases hw with e | e | e | e | e <;> subst e <;> decide +kernel
      rw [if_neg (show ¬ Sm.word (.two w a b) ∈ five from hn)]
      rw [opt_b (show Sm.two? (.two w a b) = some (a, b) from rfl)]
      show (m_law_words n a >>= _) = _
      rw [bind_ok (words_ok n d a (by omega) (by omega) ha), opt_b (show Sm.two? (.two w a b) = some (a, b) from rfl)]
      show (m_law_words n b >>= _) = _
      rw [bind_ok (words_ok n d b (by omega) (by omega) hb)]
      have h1 := words_len ha
      have h2 := words_len hb
      have h3 : 2 ^ d ≤ 2 ^ 12 := Nat.pow_le_pow_right (by decide) (by omega)
      have h4 : (2 : Nat) ^ 12 = 4096 := by decide
      rw [chk_b (by omega)]
      rfl
theorem leaf_test {may : List Str} {many : Int} {y : Sm} (h : Lf y) :
    (if (Sm.word y) ≠ ("number" : Str) then (
    if (Sm.word y) ∉ may then (
    .ok (.rt (.rt false)))
    else (
    if (Sm.word y) ∈ ([(("so" : Str), ("more" : Str)).1, (("so" : Str), ("more" : Str)).2]) then (
    opt (Sm.int? y) >>= fun y99 =>
    if y99 < (0 : Int) then (
    .ok (.rt (.rt false)))
    else (
    opt (Sm.int? y) >>= fun y106 =>
    if many ≤ y106 then (
    .ok (.rt (.rt false)))
    else (
    .ok (.nx ()))))
    else (
    .ok (.nx ()))))
    else (
    if (Sm.word y) ∈ ([(("so" : Str), ("more" : Str)).1, (("so" : Str), ("more" : Str)).2]) then (
    opt (Sm.int? y) >>= fun y132 =>
    if y132 < (0 : Int) then (
    .ok (.rt (.rt false)))
    else (
    opt (Sm.int? y) >>= fun y139 =>
    if many ≤ y139 then (
    .ok (.rt (.rt false)))
    else (
    .ok (.nx ()))))
    else (
    (.ok (.nx ()) : M (Fl Unit (Fl Unit Bool)))))) = if mayB may many y = true then .ok (.nx ()) else .ok (.rt (.rt false)) := by
  have nm : ∀ w : Str, w = "number" ∨ w = "own" ∨ w = "tie" → ¬ w ∈ ([("so" : Str), "more"] : List Str) := fun w h => by
    rcases h with e | e | e <;> subst e <;> decide +kernel
  have name : ∀ w : Str, ¬ w = ("number" : Str) → ¬ w ∈ ([("so" : Str), "more"] : List Str) → ∀ {q : M (Fl Unit (Fl Unit Bool))} {k : M (Fl Unit (Fl Unit Bool))}, (if w ≠ ("number" : Str) then (if w ∉ may then .ok (.rt (.rt false)) else (if w ∈ ([("so" : Str), "more"] : List Str) then k else .ok (.nx ()))) else q) = if decide (w ∈ may) = true then .ok (.nx ()) else .ok (.rt (.rt false)) := fun w h1 h2 q k => by
    rw [if_pos h1]
    by_cases hm : w ∈ may
    · rw [if_neg (fun z => z hm), if_neg h2, if_pos (decide_eq_true hm)]
    · rw [if_pos hm, if_neg (fun z => hm (of_decide_eq_true z))]
  have nums : ∀ (w : Str) (k : Int), ¬ w = ("number" : Str) → w ∈ ([("so" : Str), "more"] : List Str) → ∀ {q : M (Fl Unit (Fl Unit Bool))}, (if w ≠ ("number" : Str) then (if w ∉ may then .ok (.rt (.rt false)) else (if w ∈ ([("so" : Str), "more"] : List Str) then (opt (some k) >>= fun y99 => if y99 < (0 : Int) then .ok (.rt (.rt false)) else (opt (some k) >>= fun y106 => if many ≤ y106 then .ok (.rt (.rt false)) else .ok (.nx ()))) else .ok (.nx ()))) else q) = if (decide (w = ("number" : Str)) || (decide (w ∈ may) && decide (0 ≤ k) && decide (k < many))) = true then .ok (.nx ()) else .ok (.rt (.rt false)) := fun w k h1 h2 q => by
    rw [if_pos h1, decide_eq_false h1, Bool.false_or]
    by_cases hm : w ∈ may
    · rw [if_neg (fun z => z hm), if_pos h2, decide_eq_true hm, Bool.true_and, opt_b rfl]
      by_cases h0 : k < 0
      · rw [if_pos h0, decide_eq_false (by omega), Bool.false_and, if_neg Bool.false_ne_true]
      · rw [if_neg h0, decide_eq_true (show 0 ≤ k by omega), Bool.true_and, opt_b rfl]
        by_cases h3 : many ≤ k
        · rw [if_pos h3, decide_eq_false (by omega), if_neg Bool.false_ne_true]
        · rw [if_neg h3, decide_eq_true (by omega), if_pos rfl]
    · rw [if_pos hm, decide_eq_false hm, Bool.false_and, Bool.false_and, if_neg Bool.false_ne_true]
  rcases h with ⟨k, e⟩ | e | e | ⟨k, e⟩ | ⟨k, e⟩ <;> subst e
  · rw [if_neg (fun z => z rfl), if_neg (show ¬ Sm.word (.num "number" k) ∈ _ from nm _ (.inl rfl)), if_pos]
    rw [mayB_num, decide_eq_true rfl, Bool.true_or]
  · exact name "own" s_no (nm _ (.inr (.inl rfl)))
  · exact name "tie" s_nt (nm _ (.inr (.inr rfl)))
  · exact nums "so" k s_ns (by decide +kernel)
  · exact nums "more" k s_nm (by decide +kernel)
theorem is_good_ok {may : List Str} {many : Int} {xs : List Sm} (h : ∀ x ∈ xs, Sh 10 x) : m_law_is_good xs may many = .ok (xs.all (mayB may many)) := by
  unfold m_law_is_good
  rw [loopM_test (z := false) (mayB may many) (fun y hy => by
    have hs := h y hy
    show (m_law_words 12 y >>= _) = _
    rw [bind_ok (words_ok 12 10 y (by decide) (by decide) hs)]
    rw [loopM_test (z := (.rt false : Fl Unit Bool)) (mayB may many) (fun z hz => leaf_test (words_lf hs z hz)), words_may hs]
    by_cases q : mayB may many y = true
    · rw [if_pos q, if_pos q]; rfl
    · rw [if_neg q, if_neg q]; rfl)]
  by_cases q : xs.all (mayB may many) = true
  · rw [if_pos q, q]; rfl
  · rw [if_neg q, Bool.eq_false_iff.mpr q]; rfl
theorem due_ok {r : Rule} (R : RSh r) : m_law_due r = .ok (ruleB r) := by
  unfold m_law_due ruleB
  by_cases c1 : (r.a.length : Int) < 1
  · rw [if_pos c1, decide_eq_false (by omega), Bool.false_and]
  · rw [if_neg c1]
    by_cases c2 : (3 : Int) < (r.a.length : Int)
    · rw [if_pos c2, decide_eq_false (by omega), Bool.false_and]
    · rw [if_neg c2]
      by_cases c3 : (r.b.length : Int) = (r.a.length : Int)
      · rw [if_neg (fun z => z c3)]
        by_cases c4 : (r.c.length : Int) = (r.a.length : Int)
        · rw [if_neg (fun z => z c4), decide_eq_true (show 1 ≤ r.a.length ∧ r.a.length ≤ 3 ∧ r.b.length = r.a.length ∧ r.c.length = r.a.length by omega), Bool.true_and]
          unfold sumsB
          rw [bind_ok (is_good_ok (may := mB) R.sa)]
          by_cases q1 : r.a.all (mayB mB r.a.length) = true
          · rw [if_pos q1, q1, Bool.true_and, bind_ok (is_good_ok (may := mO) R.sb)]
            by_cases q2 : r.b.all (mayB mO r.a.length) = true
            · rw [if_pos q2, q2, Bool.true_and, bind_ok (is_good_ok (may := mJ) R.sc)]
              by_cases q3 : r.c.all (mayB mJ r.a.length) = true
              · rw [if_pos q3, q3, Bool.true_and]
                rw [bind_ok (is_good_ok (may := mT) (xs := [r.d]) (fun x hx => by rw [List.mem_singleton.mp hx]; exact R.sd))]
                show Except.ok (_ && true) = _
                rw [Bool.and_true]
              · rw [if_neg q3, Bool.eq_false_iff.mpr q3, Bool.false_and]
            · rw [if_neg q2, Bool.eq_false_iff.mpr q2, Bool.false_and, Bool.false_and]
          · rw [if_neg q1, Bool.eq_false_iff.mpr q1, Bool.false_and, Bool.false_and, Bool.false_and]
        · rw [if_pos c4, decide_eq_false (by omega), Bool.false_and]
      · rw [if_pos c3, decide_eq_false (by omega), Bool.false_and]
/-! ### how deep -/
theorem sh_dep : ∀ {d : Nat} {x : Sm}, Sh d x → x.d.depth ≤ d
  | 0, _, h => h.elim
  | d + 1, x, h => by
    rcases h with h | ⟨w, a, b, e, hw, ha, hb⟩
    · rcases h with ⟨k, e⟩ | e | e | ⟨k, e⟩ | ⟨k, e⟩ <;> subst e <;> simp [Sm.d, PyData.depth, PyData.depthAll]
    · subst e
      have h1 := sh_dep ha
      have h2 := sh_dep hb
      simp only [Sm.d, PyData.depth, PyData.depthAll]
      omega
theorem shs_dep : ∀ {xs : List Sm}, (∀ x ∈ xs, Sh 10 x) → PyData.depthAll (xs.map Py.toD) ≤ 10
  | [], _ => by simp [PyData.depthAll]
  | x :: xs, h => by
    have h1 := sh_dep (h x List.mem_cons_self)
    have h2 := shs_dep (fun y hy => h y (List.mem_cons_of_mem _ hy))
    rw [List.map_cons, PyData.depthAll]
    have e : Py.toD x = x.d := rfl
    rw [e]
    omega
theorem rsh_dep {r : Rule} (R : RSh r) : dep r ≤ 60 := by
  have h1 := shs_dep R.sa
  have h2 := shs_dep R.sb
  have h3 := shs_dep R.sc
  have h4 := sh_dep R.sd
  show PyData.depth (.tuple [.list (r.a.map Py.toD), .list (r.b.map Py.toD), .list (r.c.map Py.toD), r.d.d]) ≤ 60
  simp only [PyData.depth, PyData.depthAll]
  omega
/-! ### what is drawn -/
theorem rule_rsh {r : Rule} {many : Int} (R : RuleOk r many) : RSh r :=
  ⟨by have := R.la; have := R.m2; omega, by have := R.lb; have := R.m2; omega, by have := R.lc; have := R.m2; omega, fun x h => sh_up (sh_good (R.ga x h)) (by decide), fun x h => sh_up (sh_good (R.gb x h)) (by decide), fun x h => sh_up (sh_good (R.gc x h)) (by decide), sh_up (sh_good R.gd) (by decide)⟩
theorem bad_ok (d many : Int) : ∃ x d', m_law_bad_sum [d] many = .ok (x, [d']) ∧ Sh 10 x := by
  have k40 : (10 : Int) ^ 40 = 10000000000000000000000000000000000000000 := by decide
  obtain ⟨k1, d1, e1, a0, a1⟩ := take_small d 3 (by decide) (by decide)
  obtain ⟨far, f1, f2⟩ := atI_some (xs := [(1 : Int), 3, (10 : Int) ^ Int.toNat 20]) (j := k1) a0 (by simpa using a1)
  have hfar : 0 < far ∧ far ≤ 100000000000000000000 := by
    have hm := List.mem_of_getElem? f2
    rw [show (10 : Int) ^ Int.toNat 20 = 100000000000000000000 by decide] at hm
    simp only [List.mem_cons, List.not_mem_nil, or_false] at hm
    omega
  have e2 := take_ok d1 far hfar.1 (by omega)
  obtain ⟨k3, d3, e3, _, _⟩ := take_small (d1 / far) 4 (by decide) (by decide)
  obtain ⟨k4, d4, e4, _, _⟩ := take_small d3 4 (by decide) (by decide)
  obtain ⟨k5, d5, e5, b0, b1⟩ := take_small d4 9 (by decide) (by decide)
  obtain ⟨k6, d6, e6, c0, c1⟩ := take_small d5 4 (by decide) (by decide)
  unfold m_law_bad_sum
  rw [bind_ok e1]
  show ∃ x d', (opt (L2.atI [(1 : Int), 3, (10 : Int) ^ Int.toNat 20] k1) >>= _) = _ ∧ _
  rw [opt_b f1]
  show ∃ x d', (m_law_take [d1] far >>= _) = _ ∧ _
  rw [bind_ok e2]
  show ∃ x d', (m_law_take [d1 / far] 4 >>= _) = _ ∧ _
  rw [bind_ok e3]
  show ∃ x d', (m_law_take [d3] 4 >>= _) = _ ∧ _
  rw [bind_ok e4, ret_b, chk_b (by show 5 + 4 < 16777216; decide), ret_b]
  show ∃ x d', (m_law_take [d4] 9 >>= _) = _ ∧ _
  rw [bind_ok e5]
  obtain ⟨odd, ho⟩ : ∃ odd : List Sm, odd = [Sm.nam "own", Sm.nam "tie", Sm.num "so" k3, Sm.num "more" k4, Sm.num "so" (many + d1 % far), Sm.num "more" (many + d1 % far), Sm.num "so" (-1 - d1 % far), Sm.num "more" (-1 - d1 % far), Sm.num "number" ((10 : Int) ^ Int.toNat 29)] := ⟨_, rfl⟩
  obtain ⟨x, x1, x2⟩ := atI_some (xs := odd) (j := k5) b0 (by rw [ho]; simpa using b1)
  have hx : Lf x := by
    have hm := List.mem_of_getElem? x2
    rw [ho] at hm
    simp only [List.mem_cons, List.not_mem_nil, or_false] at hm
    rcases hm with e | e | e | e | e | e | e | e | e <;> subst e
    · exact .inr (.inl rfl)
    · exact .inr (.inr (.inl rfl))
    · exact .inr (.inr (.inr (.inl ⟨_, rfl⟩)))
    · exact .inr (.inr (.inr (.inr ⟨_, rfl⟩)))
    · exact .inr (.inr (.inr (.inl ⟨_, rfl⟩)))
    · exact .inr (.inr (.inr (.inr ⟨_, rfl⟩)))
    · exact .inr (.inr (.inr (.inl ⟨_, rfl⟩)))
    · exact .inr (.inr (.inr (.inr ⟨_, rfl⟩)))
    · exact .inl ⟨_, rfl⟩
  subst ho
  refine (exists_congr fun _ => exists_congr fun _ => and_congr_left' (iff_of_eq (congrArg (· = _) (opt_b x1 _)))).mpr ?_
  show ∃ x d', (m_law_take [d5] 4 >>= _) = _ ∧ _
  rw [bind_ok e6, chk_b (show okR k6 from ⟨by omega, by omega⟩)]
  obtain ⟨⟨y, st⟩, g1, ⟨d', g2⟩, g3⟩ := loopN_run (f := fun (y187 : Int) (st199 : Sm × (List Int)) =>
    m_law_take st199.2 (5 : Int) >>= fun r216 =>
    opt (L2.atI ([("plus" : Str), ("less" : Str), ("times" : Str), ("most" : Str), ("least" : Str)]) r216.1) >>= fun y230 =>
    m_law_take r216.2 (2 : Int) >>= fun r272 =>
    opt (L2.atI ([(Sm.two (T3.mk y230 st199.1 (Sm.nam ("own" : Str))).a (T3.mk y230 st199.1 (Sm.nam ("own" : Str))).b (T3.mk y230 st199.1 (Sm.nam ("own" : Str))).c), (Sm.two (T3.mk y230 (Sm.num (("number" : Str), (1 : Int)).1 (("number" : Str), (1 : Int)).2) st199.1).a (T3.mk y230 (Sm.num (("number" : Str), (1 : Int)).1 (("number" : Str), (1 : Int)).2) st199.1).b (T3.mk y230 (Sm.num (("number" : Str), (1 : Int)).1 (("number" : Str), (1 : Int)).2) st199.1).c)]) r272.1) >>= fun y286 =>
    (.ok (y286, r272.2) : M _)) (all := rangeL 0 k6) (x := (x, [d6])) (fun pre st => (∃ d', st.2 = [d']) ∧ Sh (pre.length + 1) st.1) ⟨⟨d6, rfl⟩, .inl hx⟩ fun pre i post st ea ⟨⟨d', hd⟩, hs⟩ => by
      obtain ⟨z, q⟩ := st
      have hd : q = [d'] := hd
      subst hd
      obtain ⟨k, d7, u1, u2, u3⟩ := take_small d' 5 (by decide) (by decide)
      obtain ⟨w, w1, w2⟩ := atI_some (xs := [("plus" : Str), "less", "times", "most", "least"]) (j := k) u2 (by simpa using u3)
      have hw : OpW w := by
        have hm := List.mem_of_getElem? w2
        simp only [List.mem_cons, List.not_mem_nil, or_false] at hm
        exact hm
      obtain ⟨k', d8, v1, v2, v3⟩ := take_small d7 2 (by decide) (by decide)
      have hs : Sh (pre.length + 1) z := hs
      have two : ∃ u, L2.atI [Sm.two w z (Sm.nam "own"), Sm.two w (Sm.num "number" 1) z] k' = some u ∧ Sh (pre.length + 1 + 1) u := by
        obtain ⟨u, h1, h2⟩ := atI_some (xs := [Sm.two w z (Sm.nam "own"), Sm.two w (Sm.num "number" 1) z]) (j := k') v2 (by simpa using v3)
        refine ⟨u, h1, ?_⟩
        have hm := List.mem_of_getElem? h2
        simp only [List.mem_cons, List.not_mem_nil, or_false] at hm
        rcases hm with e | e
        · subst e; exact .inr ⟨w, _, _, rfl, hw, hs, .inl (.inr (.inl rfl))⟩
        · subst e; exact .inr ⟨w, _, _, rfl, hw, .inl (.inl ⟨1, rfl⟩), hs⟩
      obtain ⟨u, h1, h2⟩ := two
      refine ⟨(u, [d8]), ?_, ⟨d8, rfl⟩, by rw [List.length_append]; exact h2⟩
      show (m_law_take [d'] 5 >>= _) = _
      rw [bind_ok u1]
      show (opt (L2.atI [("plus" : Str), "less", "times", "most", "least"] k) >>= _) = _
      rw [opt_b w1]
      show (m_law_take [d7] 2 >>= _) = _
      rw [bind_ok v1]
      exact opt_b h1 _
  have g2 : st = [d'] := g2
  subst g2
  rw [rangeL_length] at g3
  refine ⟨y, d', ?_, sh_up g3 (by omega)⟩
  exact (bind_ok g1 _).trans rfl
/-- lists of sums -/
def LS (xs : List Sm) : Prop := xs.length ≤ 1000 ∧ ∀ x ∈ xs, Sh 10 x
theorem ls_at {a b c : List Sm} (P : List Sm → Prop) (ha : P a) (hb : P b) (hc : P c) {k : Int} (k0 : 0 ≤ k) (k3 : k < 3) : ∃ p, L2.atI [a, b, c] k = some p ∧ P p := by
  obtain ⟨p, h1, h2⟩ := atI_some (xs := [a, b, c]) (j := k) k0 (by simpa using k3)
  refine ⟨p, h1, ?_⟩
  have hm := List.mem_of_getElem? h2
  simp only [List.mem_cons, List.not_mem_nil, or_false] at hm
  rcases hm with e | e | e <;> subst e <;> assumption
theorem ls_set {a b c p : List Sm} (P : List Sm → Prop) (ha : P a) (hb : P b) (hc : P c) (hp : P p) {k : Int} (k0 : 0 ≤ k) (k3 : k < 3) : ∃ a' b' c', setI [a, b, c] k p = .ok [a', b', c'] ∧ P a' ∧ P b' ∧ P c' := by
  have : k = 0 ∨ k = 1 ∨ k = 2 := by omega
  rcases this with e | e | e <;> subst e
  · exact ⟨p, b, c, rfl, hp, hb, hc⟩
  · exact ⟨a, p, c, rfl, ha, hp, hc⟩
  · exact ⟨a, b, p, rfl, ha, hb, hp⟩
theorem at3 {a b c : List Sm} : L2.atI [a, b, c] (0 : Int) = some a ∧ L2.atI [a, b, c] (1 : Int) = some b ∧ L2.atI [a, b, c] (2 : Int) = some c := ⟨rfl, rfl, rfl⟩
theorem popL_ok {a : Type} {xs : List a} (h : 0 < xs.length) : ∃ y, popL xs = .ok (y, xs.dropLast) := by
  have hl : xs.length - 1 < xs.length := by omega
  refine ⟨xs[xs.length - 1], ?_⟩
  unfold popL
  rw [List.getElem?_eq_getElem hl]
theorem spoilt_ok (d : Int) {r : Rule} {many : Int} (R : RuleOk r many) : ∃ r' d', m_law_spoilt [d] r = .ok (r', [d']) ∧ RSh r' := by
  have S := rule_rsh R
  have m1 := R.m1
  have m2 := R.m2
  have la := R.la
  have lb := R.lb
  have lc := R.lc
  have PA : LS r.a ∧ (r.a.length : Int) = many := ⟨⟨S.la, S.sa⟩, la⟩
  have PB : LS r.b ∧ (r.b.length : Int) = many := ⟨⟨S.lb, S.sb⟩, lb⟩
  have PC : LS r.c ∧ (r.c.length : Int) = many := ⟨⟨S.lc, S.sc⟩, lc⟩
  obtain ⟨at_, d1, e1, a0, a3⟩ := take_small d 3 (by decide) (by decide)
  obtain ⟨way, d2, e2, w0, w8⟩ := take_small d1 8 (by decide) (by decide)
  obtain ⟨p, p1, ⟨p2, p2'⟩, p3⟩ := ls_at (fun xs => LS xs ∧ (xs.length : Int) = many) PA PB PC a0 a3
  have fin : ∀ {a b c : List Sm} {x : Sm} {d' : Int}, LS a → LS b → LS c → Sh 10 x → ∃ r' d'', (opt (L2.atI [a, b, c] (0 : Int)) >>= fun u => opt (L2.atI [a, b, c] (1 : Int)) >>= fun v => opt (L2.atI [a, b, c] (2 : Int)) >>= fun w => (.ok ((T4.mk u v w x), [d']) : M _)) = .ok (r', [d'']) ∧ RSh r' := fun {a b c x d'} ha hb hc hx =>
    ⟨⟨a, b, c, x⟩, d', by rw [opt_b at3.1, opt_b at3.2.1, opt_b at3.2.2], ⟨ha.1, hb.1, hc.1, ha.2, hb.2, hc.2, hx⟩⟩
  unfold m_law_spoilt
  rw [bind_ok (compS_pure (fun y => some y) (by show 3 < 16777216; decide) fun y hy => rfl)]
  rw [show (List.filterMap (fun (y : List Sm) => some y) [r.a, r.b, r.c]) = [r.a, r.b, r.c] from rfl]
  rw [opt_b (show L2.atI [r.a, r.b, r.c] (0 : Int) = some r.a from rfl), bind_ok e1]
  show ∃ r' d', (m_law_take [d1] 8 >>= _) = _ ∧ _
  rw [bind_ok e2]
  show ∃ r' d', (if way = 0 then _ else _) = _ ∧ _
  by_cases q0 : way = 0
  · rw [if_pos q0]
    show ∃ r' d', (opt (L2.atI [r.a, r.b, r.c] at_) >>= _) = _ ∧ _
    rw [opt_b p1]
    obtain ⟨y, hy⟩ := popL_ok (xs := p) (by omega)
    rw [bind_ok hy]
    obtain ⟨a', b', c', s1, s2, s3, s4⟩ := ls_set (p := p.dropLast) LS PA.1 PB.1 PC.1 ⟨by rw [List.length_dropLast]; omega, fun x hx => p2' x (List.dropLast_subset _ hx)⟩ a0 a3
    show ∃ r' d', (setI [r.a, r.b, r.c] at_ p.dropLast >>= _) = _ ∧ _
    rw [bind_ok s1]
    exact fin s2 s3 s4 S.sd
  rw [if_neg q0]
  show ∃ r' d', (if way = 1 then _ else _) = _ ∧ _
  by_cases q1 : way = 1
  · rw [if_pos q1]
    show ∃ r' d', (opt (L2.atI [r.a, r.b, r.c] at_) >>= _) = _ ∧ _
    rw [opt_b p1]
    obtain ⟨x, d3, e3, hx⟩ := leaf_ok2 ["own"] (by decide +kernel) (by decide) 1 (by decide) (by decide) d2
    show ∃ r' d', (m_law_leaf [d2] ["own"] 1 >>= _) = _ ∧ _
    rw [bind_ok e3, bind_ok (appL_ok (by omega))]
    have hx' : Sh 10 x := sh_up (sh_good (show Good2 ["own"] 1 1 x from .inl hx)) (by decide)
    obtain ⟨a', b', c', s1, s2, s3, s4⟩ := ls_set (p := p ++ [x]) LS PA.1 PB.1 PC.1 ⟨by rw [List.length_append, List.length_singleton]; omega, fun y hy => by
      rcases List.mem_append.mp hy with hy | hy
      · exact p2' y hy
      · rw [List.mem_singleton.mp hy]; exact hx'⟩ a0 a3
    show ∃ r' d', (setI [r.a, r.b, r.c] at_ (p ++ [x]) >>= _) = _ ∧ _
    rw [bind_ok s1]
    exact fin s2 s3 s4 S.sd
  rw [if_neg q1]
  show ∃ r' d', (if way = 2 then _ else _) = _ ∧ _
  by_cases q2 : way = 2
  · rw [if_pos q2]
    have rep : ∀ (xs : List Sm), (xs.length : Int) = many → LS xs → LS (xs ++ repL ((4 : Int) - (r.a.length : Int)) [Sm.num "number" 1]) ∧ xs.length + (repL ((4 : Int) - (r.a.length : Int)) [Sm.num "number" 1]).length < 16777216 := fun xs h1 h2 => by
      have hr : (repL ((4 : Int) - (r.a.length : Int)) [Sm.num "number" 1]) = List.replicate ((4 : Int) - (r.a.length : Int)).toNat (Sm.num "number" 1) := by
        unfold repL
        induction ((4 : Int) - (r.a.length : Int)).toNat with
        | zero => rfl
        | succ n ih => rw [List.replicate_succ, List.flatten_cons, ih]; rfl
      rw [hr]
      refine ⟨⟨by rw [List.length_append, List.length_replicate]; omega, fun x hx => ?_⟩, by rw [List.length_replicate]; omega⟩
      rcases List.mem_append.mp hx with hx | hx
      · exact h2.2 x hx
      · rw [(List.mem_replicate.mp hx).2]; exact .inl (.inl ⟨1, rfl⟩)
    rw [bind_ok (compS_pure (fun y => some (y ++ repL ((4 : Int) - (r.a.length : Int)) [Sm.num "number" 1])) (by show 3 < 16777216; decide) fun y hy => by
      have hy : LS y ∧ (y.length : Int) = many := by
        simp only [List.mem_cons, List.not_mem_nil, or_false] at hy
        rcases hy with e | e | e <;> subst e <;> assumption
      rw [chk_b (show CRep [Sm.num "number" 1].length ((4 : Int) - (r.a.length : Int)) from ⟨by omega, by omega, by show 1 * _ < _; omega⟩)]
      exact chk_b (rep y hy.2 hy.1).2 _)]
    exact fin (rep _ la PA.1).1 (rep _ lb PB.1).1 (rep _ lc PC.1).1 S.sd
  rw [if_neg q2]
  show ∃ r' d', (if way = 3 then _ else _) = _ ∧ _
  by_cases q3 : way = 3
  · rw [if_pos q3]
    have nil : LS [] := ⟨by decide, fun _ h => nomatch h⟩
    exact fin nil nil nil S.sd
  rw [if_neg q3]
  show ∃ r' d', (if way = 4 then _ else _) = _ ∧ _
  obtain ⟨x, d3, e3, hx⟩ := bad_ok d2 (r.a.length : Int)
  by_cases q4 : way = 4
  · rw [if_pos q4]
    rw [opt_b (show L2.atI [r.a, r.b, r.c] (0 : Int) = some r.a from rfl), opt_b (show L2.atI [r.a, r.b, r.c] (1 : Int) = some r.b from rfl), opt_b (show L2.atI [r.a, r.b, r.c] (2 : Int) = some r.c from rfl)]
    show ∃ r' d', (m_law_bad_sum [d2] (r.a.length : Int) >>= _) = _ ∧ _
    rw [bind_ok e3]
    exact ⟨_, d3, rfl, ⟨S.la, S.lb, S.lc, S.sa, S.sb, S.sc, hx⟩⟩
  rw [if_neg q4]
  show ∃ r' d', (m_law_bad_sum [d2] (r.a.length : Int) >>= _) = _ ∧ _
  rw [bind_ok e3]
  show ∃ r' d', (opt (L2.atI [r.a, r.b, r.c] at_) >>= _) = _ ∧ _
  rw [opt_b p1]
  obtain ⟨k, d4, e4, k0, k1⟩ := take_small d3 (r.a.length : Int) (by omega) (by omega)
  show ∃ r' d', (m_law_take [d3] (r.a.length : Int) >>= _) = _ ∧ _
  rw [bind_ok e4]
  show ∃ r' d', (setI p k x >>= _) = _ ∧ _
  rw [bind_ok (setI_ok k0 (by omega))]
  obtain ⟨a', b', c', s1, s2, s3, s4⟩ := ls_set (p := p.set k.toNat x) LS PA.1 PB.1 PC.1 ⟨by rw [List.length_set]; exact p2, fun y hy => by
    rcases List.mem_or_eq_of_mem_set hy with hy | hy
    · exact p2' y hy
    · rw [hy]; exact hx⟩ a0 a3
  show ∃ r' d', (setI [r.a, r.b, r.c] at_ (p.set k.toNat x) >>= _) = _ ∧ _
  rw [bind_ok s1]
  exact fin s2 s3 s4 S.sd
theorem law_true (ns : List Int) (h : ns.length ≤ 63) : m_law ns = .ok true := by
  unfold m_law
  have hc := cut10 ns 25
  have hc : (cutL ns none (some (25 : Int))).length ≤ ns.length := hc
  rw [chk_b (show ([((10 : Int) ^ Int.toNat (18 : Int))]).length + (cutL ns none (some (25 : Int))).length < 16777216 by simp only [List.length_singleton]; omega)]
  rw [bind_ok (loopM_all fun c _ => ?_)]
  obtain ⟨d, e1⟩ := deck_ok c
  rw [bind_ok e1]
  obtain ⟨r, d1, many, e2, R⟩ := rule_ok d true
  rw [bind_ok e2, chk_b (show okR 4 from ⟨by decide, by decide⟩)]
  obtain ⟨acc, st, g1, ⟨d', g2⟩, g3, g4⟩ := compS_run (f := fun (y97 : Int) (st115 : (List Int)) =>
    m_law_spoilt st115 r >>= fun r121 =>
    (.ok (some r121.1, r121.2) : M _)) (all := rangeL 0 (4 : Int)) (by rw [rangeL_length]; decide) (fun pre acc st => (∃ d', st = [d']) ∧ acc.length = pre.length ∧ ∀ x ∈ acc, RSh x) (x := [d1]) ⟨⟨d1, rfl⟩, rfl, fun _ h => nomatch h⟩ fun pre y post acc st _ ⟨⟨d', hd⟩, h3, h4⟩ => by
      subst hd
      obtain ⟨r', d'', e, hr⟩ := spoilt_ok d' R
      refine ⟨some r', [d''], by rw [bind_ok e], ⟨d'', rfl⟩, by rw [List.length_append, List.length_append, h3]; rfl, fun z hz => ?_⟩
      rcases List.mem_append.mp hz with hz | hz
      · exact h4 z hz
      · rw [List.mem_singleton.mp hz]; exact hr
  rw [rangeL_length] at g3
  show (compS _ (rangeL 0 (4 : Int)) [d1] >>= _) = _
  rw [bind_ok g1, chk_b (show ([r]).length + acc.length < 16777216 by show 1 + acc.length < 16777216; omega)]
  rw [bind_ok (loopM_all fun y hy => ?_)]
  · show (m_is_rule r >>= _) = _
    rw [bind_ok (is_rule_ok R), if_pos rfl]
  · have hy : RSh y := by
      rcases List.mem_append.mp hy with hy | hy
      · rw [List.mem_singleton.mp hy]; exact rule_rsh R
      · exact g4 y hy
    show (m_is_rule y >>= _) = _
    rw [bind_ok (is_rule_val hy), bind_ok (due_ok hy), if_neg (fun z => z rfl)]
    have := rsh_dep hy
    rw [chk_b (show min (dep y) (dep y) ≤ 60 by omega)]
    exact if_neg (fun z => z rfl)

theorem all_mk {P : Program} {w : World} {K : PySem.W.Frag} {h : Heap} {mg : Str → Option Value} {fa f1 f2 f3 f4 f5 f6 f7 f8 f9 f10 f11 f12 f13 f14 : Addr} {od1 an1 od2 an2 od3 an3 od4 an4 od5 an5 od6 an6 od7 an7 od8 an8 od9 an9 od10 an10 od11 an11 od12 an12 od13 an13 od14 an14 : Option Addr} {sl1 sl2 sl3 sl4 sl5 sl6 sl7 sl8 sl9 sl10 sl11 sl12 sl13 sl14 : Array (Option Value)} {oc1 kV1 dc1 pm1 cd1 ct1 oc2 kV2 dc2 pm2 cd2 ct2 oc3 kV3 dc3 pm3 cd3 ct3 oc4 kV4 dc4 pm4 cd4 ct4 oc5 kV5 dc5 pm5 cd5 ct5 oc6 kV6 dc6 pm6 cd6 ct6 oc7 kV7 dc7 pm7 cd7 ct7 oc8 kV8 dc8 pm8 cd8 ct8 oc9 kV9 dc9 pm9 cd9 ct9 oc10 kV10 dc10 pm10 cd10 ct10 oc11 kV11 dc11 pm11 cd11 ct11 oc12 kV12 dc12 pm12 cd12 ct12 oc13 kV13 dc13 pm13 cd13 ct13 oc14 kV14 dc14 pm14 cd14 ct14 : Value} {tk_MOST : Tok} (X : K.In h) (G : h.Ns mainGlobals mg) (hfa : mg "law" = some (.ref fa))
    (a1 : PySem.W.nsIn K mainGlobals "may_stand" = some (some (.ref f1))) (l1 : K.lookup f1 = some ⟨oc1, od1, .func (PySem.W.fnOf "may_stand" "may_stand" (defArgs s_may_stand) (defBody s_may_stand) (defScope s_may_stand) .none kV1 dc1 pm1 an1 cd1 ct1), sl1⟩) (c1 : PySem.W.codeIn K cd1 "may_stand" = true) (k1 : PySem.W.keepIn K (.ref f1) = true)
    (a2 : PySem.W.nsIn K mainGlobals "is_rule" = some (some (.ref f2))) (l2 : K.lookup f2 = some ⟨oc2, od2, .func (PySem.W.fnOf "is_rule" "is_rule" (defArgs s_is_rule) (defBody s_is_rule) (defScope s_is_rule) .none kV2 dc2 pm2 an2 cd2 ct2), sl2⟩) (c2 : PySem.W.codeIn K cd2 "is_rule" = true) (k2 : PySem.W.keepIn K (.ref f2) = true)
    (a3 : PySem.W.nsIn K mainGlobals "_law_stir" = some (some (.ref f3))) (l3 : K.lookup f3 = some ⟨oc3, od3, .func (PySem.W.fnOf "_law_stir" "_law_stir" (defArgs s_law_stir) (defBody s_law_stir) (defScope s_law_stir) .none kV3 dc3 pm3 an3 cd3 ct3), sl3⟩) (c3 : PySem.W.codeIn K cd3 "_law_stir" = true) (k3 : PySem.W.keepIn K (.ref f3) = true)
    (a4 : PySem.W.nsIn K mainGlobals "_law_deck" = some (some (.ref f4))) (l4 : K.lookup f4 = some ⟨oc4, od4, .func (PySem.W.fnOf "_law_deck" "_law_deck" (defArgs s_law_deck) (defBody s_law_deck) (defScope s_law_deck) .none kV4 dc4 pm4 an4 cd4 ct4), sl4⟩) (c4 : PySem.W.codeIn K cd4 "_law_deck" = true) (k4 : PySem.W.keepIn K (.ref f4) = true)
    (a5 : PySem.W.nsIn K mainGlobals "_law_take" = some (some (.ref f5))) (l5 : K.lookup f5 = some ⟨oc5, od5, .func (PySem.W.fnOf "_law_take" "_law_take" (defArgs s_law_take) (defBody s_law_take) (defScope s_law_take) .none kV5 dc5 pm5 an5 cd5 ct5), sl5⟩) (c5 : PySem.W.codeIn K cd5 "_law_take" = true) (k5 : PySem.W.keepIn K (.ref f5) = true)
    (a6 : PySem.W.nsIn K mainGlobals "_law_leaf" = some (some (.ref f6))) (l6 : K.lookup f6 = some ⟨oc6, od6, .func (PySem.W.fnOf "_law_leaf" "_law_leaf" (defArgs s_law_leaf) (defBody s_law_leaf) (defScope s_law_leaf) .none kV6 dc6 pm6 an6 cd6 ct6), sl6⟩) (c6 : PySem.W.codeIn K cd6 "_law_leaf" = true) (k6 : PySem.W.keepIn K (.ref f6) = true)
    (a7 : PySem.W.nsIn K mainGlobals "_law_sum" = some (some (.ref f7))) (l7 : K.lookup f7 = some ⟨oc7, od7, .func (PySem.W.fnOf "_law_sum" "_law_sum" (defArgs s_law_sum) (defBody s_law_sum) (defScope s_law_sum) .none kV7 dc7 pm7 an7 cd7 ct7), sl7⟩) (c7 : PySem.W.codeIn K cd7 "_law_sum" = true) (k7 : PySem.W.keepIn K (.ref f7) = true)
    (a8 : PySem.W.nsIn K mainGlobals "_law_rule" = some (some (.ref f8))) (l8 : K.lookup f8 = some ⟨oc8, od8, .func (PySem.W.fnOf "_law_rule" "_law_rule" (defArgs s_law_rule) (defBody s_law_rule) (defScope s_law_rule) .none kV8 dc8 pm8 an8 cd8 ct8), sl8⟩) (c8 : PySem.W.codeIn K cd8 "_law_rule" = true) (k8 : PySem.W.keepIn K (.ref f8) = true)
    (a9 : PySem.W.nsIn K mainGlobals "_law_words" = some (some (.ref f9))) (l9 : K.lookup f9 = some ⟨oc9, od9, .func (PySem.W.fnOf "_law_words" "_law_words" (defArgs s_law_words) (defBody s_law_words) (defScope s_law_words) .none kV9 dc9 pm9 an9 cd9 ct9), sl9⟩) (c9 : PySem.W.codeIn K cd9 "_law_words" = true) (k9 : PySem.W.keepIn K (.ref f9) = true)
    (a10 : PySem.W.nsIn K mainGlobals "_law_is_good" = some (some (.ref f10))) (l10 : K.lookup f10 = some ⟨oc10, od10, .func (PySem.W.fnOf "_law_is_good" "_law_is_good" (defArgs s_law_is_good) (defBody s_law_is_good) (defScope s_law_is_good) .none kV10 dc10 pm10 an10 cd10 ct10), sl10⟩) (c10 : PySem.W.codeIn K cd10 "_law_is_good" = true) (k10 : PySem.W.keepIn K (.ref f10) = true)
    (a11 : PySem.W.nsIn K mainGlobals "_law_due" = some (some (.ref f11))) (l11 : K.lookup f11 = some ⟨oc11, od11, .func (PySem.W.fnOf "_law_due" "_law_due" (defArgs s_law_due) (defBody s_law_due) (defScope s_law_due) .none kV11 dc11 pm11 an11 cd11 ct11), sl11⟩) (c11 : PySem.W.codeIn K cd11 "_law_due" = true) (k11 : PySem.W.keepIn K (.ref f11) = true)
    (a12 : PySem.W.nsIn K mainGlobals "_law_bad_sum" = some (some (.ref f12))) (l12 : K.lookup f12 = some ⟨oc12, od12, .func (PySem.W.fnOf "_law_bad_sum" "_law_bad_sum" (defArgs s_law_bad_sum) (defBody s_law_bad_sum) (defScope s_law_bad_sum) .none kV12 dc12 pm12 an12 cd12 ct12), sl12⟩) (c12 : PySem.W.codeIn K cd12 "_law_bad_sum" = true) (k12 : PySem.W.keepIn K (.ref f12) = true)
    (a13 : PySem.W.nsIn K mainGlobals "_law_spoilt" = some (some (.ref f13))) (l13 : K.lookup f13 = some ⟨oc13, od13, .func (PySem.W.fnOf "_law_spoilt" "_law_spoilt" (defArgs s_law_spoilt) (defBody s_law_spoilt) (defScope s_law_spoilt) .none kV13 dc13 pm13 an13 cd13 ct13), sl13⟩) (c13 : PySem.W.codeIn K cd13 "_law_spoilt" = true) (k13 : PySem.W.keepIn K (.ref f13) = true)
    (a14 : PySem.W.nsIn K mainGlobals "law" = some (some (.ref f14))) (l14 : K.lookup f14 = some ⟨oc14, od14, .func (PySem.W.fnOf "law" "law" (defArgs s_law) (defBody s_law) (defScope s_law) .none kV14 dc14 pm14 an14 cd14 ct14), sl14⟩) (c14 : PySem.W.codeIn K cd14 "law" = true) (k14 : PySem.W.keepIn K (.ref f14) = true)
    (zc_MOST : PySem.W.nsIn K mainGlobals "MOST" = some (some (.int 3 tk_MOST)))
    (z_bool : PySem.W.nsIn K mainGlobals "bool" = some none)
    (z_isinstance : PySem.W.nsIn K mainGlobals "isinstance" = some none)
    (z_len : PySem.W.nsIn K mainGlobals "len" = some none)
    (z_list : PySem.W.nsIn K mainGlobals "list" = some none)
    (z_range : PySem.W.nsIn K mainGlobals "range" = some none) :
    ∃ fd : FuncData, (∀ (s : Shared) (v : Value), BindsTo s fd ⟨[v], []⟩ [("script", v)]) ∧ ∀ base : Heap, K.In base → base.Ns mainGlobals mg → FnOk P w K mg base (L2.CX P w) 63 fa fd ["script"] (sp_law K) := by
  have e := hfa.symm.trans (PySem.W.mg_of X G a14)
  cases e
  have nb : Nb mg := ⟨PySem.W.mg_none_of X G z_bool, PySem.W.mg_none_of X G z_isinstance, PySem.W.mg_none_of X G z_len, PySem.W.mg_none_of X G z_list, PySem.W.mg_none_of X G z_range, ⟨_, PySem.W.mg_of X G zc_MOST, ⟨_, rfl⟩⟩⟩
  have F1 := fun_mk (x := "may_stand") (st := s_may_stand) l1 c1 k1
  have D_may_stand : Df K mg "may_stand" "may_stand" s_may_stand ["told", "leaves", "many"] := ⟨_, _, F1, PySem.W.mg_of X G a1, F1.binds (ps := ["told", "leaves", "many"]) fun _ _ _ _ _ _ us hl => match us, hl with | [_, _, _], _ => rfl⟩
  have F2 := fun_mk (x := "is_rule") (st := s_is_rule) l2 c2 k2
  have D_is_rule : Df K mg "is_rule" "is_rule" s_is_rule ["thing"] := ⟨_, _, F2, PySem.W.mg_of X G a2, F2.binds (ps := ["thing"]) fun _ _ _ _ _ _ us hl => match us, hl with | [_], _ => rfl⟩
  have F3 := fun_mk (x := "_law_stir") (st := s_law_stir) l3 c3 k3
  have D_law_stir : Df K mg "_law_stir" "_law_stir" s_law_stir ["cell", "k"] := ⟨_, _, F3, PySem.W.mg_of X G a3, F3.binds (ps := ["cell", "k"]) fun _ _ _ _ _ _ us hl => match us, hl with | [_, _], _ => rfl⟩
  have F4 := fun_mk (x := "_law_deck") (st := s_law_deck) l4 c4 k4
  have D_law_deck : Df K mg "_law_deck" "_law_deck" s_law_deck ["cell"] := ⟨_, _, F4, PySem.W.mg_of X G a4, F4.binds (ps := ["cell"]) fun _ _ _ _ _ _ us hl => match us, hl with | [_], _ => rfl⟩
  have F5 := fun_mk (x := "_law_take") (st := s_law_take) l5 c5 k5
  have D_law_take : Df K mg "_law_take" "_law_take" s_law_take ["deck", "many"] := ⟨_, _, F5, PySem.W.mg_of X G a5, F5.binds (ps := ["deck", "many"]) fun _ _ _ _ _ _ us hl => match us, hl with | [_, _], _ => rfl⟩
  have F6 := fun_mk (x := "_law_leaf") (st := s_law_leaf) l6 c6 k6
  have D_law_leaf : Df K mg "_law_leaf" "_law_leaf" s_law_leaf ["deck", "leaves", "many"] := ⟨_, _, F6, PySem.W.mg_of X G a6, F6.binds (ps := ["deck", "leaves", "many"]) fun _ _ _ _ _ _ us hl => match us, hl with | [_, _, _], _ => rfl⟩
  have F7 := fun_mk (x := "_law_sum") (st := s_law_sum) l7 c7 k7
  have D_law_sum : Df K mg "_law_sum" "_law_sum" s_law_sum ["deck", "leaves", "many", "deep", "times"] := ⟨_, _, F7, PySem.W.mg_of X G a7, F7.binds (ps := ["deck", "leaves", "many", "deep", "times"]) fun _ _ _ _ _ _ us hl => match us, hl with | [_, _, _, _, _], _ => rfl⟩
  have F8 := fun_mk (x := "_law_rule") (st := s_law_rule) l8 c8 k8
  have D_law_rule : Df K mg "_law_rule" "_law_rule" s_law_rule ["deck", "times"] := ⟨_, _, F8, PySem.W.mg_of X G a8, F8.binds (ps := ["deck", "times"]) fun _ _ _ _ _ _ us hl => match us, hl with | [_, _], _ => rfl⟩
  have F9 := fun_mk (x := "_law_words") (st := s_law_words) l9 c9 k9
  have D_law_words : Df K mg "_law_words" "_law_words" s_law_words ["told"] := ⟨_, _, F9, PySem.W.mg_of X G a9, F9.binds (ps := ["told"]) fun _ _ _ _ _ _ us hl => match us, hl with | [_], _ => rfl⟩
  have F10 := fun_mk (x := "_law_is_good") (st := s_law_is_good) l10 c10 k10
  have D_law_is_good : Df K mg "_law_is_good" "_law_is_good" s_law_is_good ["sums", "may", "many"] := ⟨_, _, F10, PySem.W.mg_of X G a10, F10.binds (ps := ["sums", "may", "many"]) fun _ _ _ _ _ _ us hl => match us, hl with | [_, _, _], _ => rfl⟩
  have F11 := fun_mk (x := "_law_due") (st := s_law_due) l11 c11 k11
  have D_law_due : Df K mg "_law_due" "_law_due" s_law_due ["rule"] := ⟨_, _, F11, PySem.W.mg_of X G a11, F11.binds (ps := ["rule"]) fun _ _ _ _ _ _ us hl => match us, hl with | [_], _ => rfl⟩
  have F12 := fun_mk (x := "_law_bad_sum") (st := s_law_bad_sum) l12 c12 k12
  have D_law_bad_sum : Df K mg "_law_bad_sum" "_law_bad_sum" s_law_bad_sum ["deck", "many"] := ⟨_, _, F12, PySem.W.mg_of X G a12, F12.binds (ps := ["deck", "many"]) fun _ _ _ _ _ _ us hl => match us, hl with | [_, _], _ => rfl⟩
  have F13 := fun_mk (x := "_law_spoilt") (st := s_law_spoilt) l13 c13 k13
  have D_law_spoilt : Df K mg "_law_spoilt" "_law_spoilt" s_law_spoilt ["deck", "rule"] := ⟨_, _, F13, PySem.W.mg_of X G a13, F13.binds (ps := ["deck", "rule"]) fun _ _ _ _ _ _ us hl => match us, hl with | [_, _], _ => rfl⟩
  have F14 := fun_mk (x := "law") (st := s_law) l14 c14 k14
  refine ⟨PySem.W.fnOf "law" "law" (defArgs s_law) (defBody s_law) (defScope s_law) .none kV14 dc14 pm14 an14 cd14 ct14, fun s v => .of_eq rfl, fun base _ _ => ?_⟩
  have C_may_stand : Ca P w K mg base "may_stand" 61 ["told", "leaves", "many"] (sp_may_stand 60 mg) := ok_may_stand nb  D_may_stand 60
  have C_is_rule : Ca P w K mg base "is_rule" 62 ["thing"] (sp_is_rule mg) := ok_is_rule nb C_may_stand  D_is_rule
  have C_law_stir : Ca P w K mg base "_law_stir" 1 ["cell", "k"] (sp_law_stir mg) := ok_law_stir nb  D_law_stir
  have C_law_deck : Ca P w K mg base "_law_deck" 2 ["cell"] (sp_law_deck mg) := ok_law_deck nb C_law_stir  D_law_deck
  have C_law_take : Ca P w K mg base "_law_take" 1 ["deck", "many"] (sp_law_take mg) := ok_law_take nb  D_law_take
  have C_law_leaf : Ca P w K mg base "_law_leaf" 2 ["deck", "leaves", "many"] (sp_law_leaf mg) := ok_law_leaf nb C_law_take  D_law_leaf
  have C_law_sum : Ca P w K mg base "_law_sum" 8 ["deck", "leaves", "many", "deep", "times"] (sp_law_sum 5 mg) := ok_law_sum nb C_law_leaf C_law_take  D_law_sum 5
  have C_law_rule : Ca P w K mg base "_law_rule" 9 ["deck", "times"] (sp_law_rule mg) := ok_law_rule nb C_law_sum C_law_take  D_law_rule
  have C_law_words : Ca P w K mg base "_law_words" 13 ["told"] (sp_law_words 12 mg) := ok_law_words nb  D_law_words 12
  have C_law_is_good : Ca P w K mg base "_law_is_good" 14 ["sums", "may", "many"] (sp_law_is_good mg) := ok_law_is_good nb C_law_words  D_law_is_good
  have C_law_due : Ca P w K mg base "_law_due" 15 ["rule"] (sp_law_due mg) := ok_law_due nb C_law_is_good  D_law_due
  have C_law_bad_sum : Ca P w K mg base "_law_bad_sum" 2 ["deck", "many"] (sp_law_bad_sum mg) := ok_law_bad_sum nb C_law_take  D_law_bad_sum
  have C_law_spoilt : Ca P w K mg base "_law_spoilt" 3 ["deck", "rule"] (sp_law_spoilt mg) := ok_law_spoilt nb C_law_bad_sum C_law_leaf C_law_take  D_law_spoilt
  exact ok_law nb C_law_deck C_law_due C_law_rule C_law_spoilt C_is_rule F14
theorem walk {l : PySem.W.OpenLaw} {q : Program} {loose : List Str} {XP : (Str → Option Value) → Heap → Prop} {YP : World → Heap → Prop} {d : DefRec} {K : Params → PySem.W.Frag} (hn : l.most = some 63) (hdf : d.params.defaults = [])
    (hY : ∀ (w : World) (h : Heap), YP w h → (K w.params).In h)
    (F : ∀ (w : World) (mg : Str → Option Value) (fa : Addr) (h : Heap), (K w.params).In h → h.Ns mainGlobals mg → mg d.name = some (.ref fa) →
      ∃ fd : FuncData, (∀ (s : Shared) (u : Value), BindsTo s fd ⟨[u], []⟩ [("script", u)]) ∧ ∀ base : Heap, (K w.params).In base → base.Ns mainGlobals mg → FnOk l.prog w (K w.params) mg base (L2.CX l.prog w) 63 fa fd ["script"] (sp_law (K w.params))) :
    PySem.W.WalkO q loose XP YP l.row.toRowW d [] (fun f vs => PySem.call f vs) :=
  L2.walk_of (n := 63) (k := 63) (x := "script") (CX := fun w => L2.CX l.prog w) (sp := fun w => sp_law (K w.params)) hn (by decide) hdf ⟨rfl, by decide, by decide⟩ hY F
    (fun _ H a ns hl _ hS => ⟨H, a, ns, rfl, ⟨Same.refl _, (fun _ h => nomatch h), (fun _ h => nomatch h), List.nodup_nil, (fun _ h => nomatch h)⟩, hS, by rw [law_true ns hl]; exact fun _ _ _ => rfl⟩)
    fun _ _ _ _ _ z => by
      obtain ⟨_, _, _, _, _, _, _, _, _, _, _, _, z⟩ := z
      exact z.elim
end G
open PySem PySem.W PyProof.Rows
set_option maxRecDepth 100000 in
set_option maxHeartbeats 0 in
theorem PySem.Challenge.cw_everyseat_k09_rules_judged_holds : PySem.Challenge.rw_everyseat_k09_rules_judged.Holds := by
  w_on; o_law; k_head; (case hw => w_witness2)
  k_fill
  refine G.walk (l := PySem.Challenge.rw_everyseat_k09_rules_judged) rfl rfl (fun w h Y => PySem.W.kIn_of Y) ?F
  case F =>
    intro w mg fa h KX GG hmg
    refine' G.all_mk KX GG hmg ?a1 ?l1 ?c1 ?k1 ?a2 ?l2 ?c2 ?k2 ?a3 ?l3 ?c3 ?k3 ?a4 ?l4 ?c4 ?k4 ?a5 ?l5 ?c5 ?k5 ?a6 ?l6 ?c6 ?k6 ?a7 ?l7 ?c7 ?k7 ?a8 ?l8 ?c8 ?k8 ?a9 ?l9 ?c9 ?k9 ?a10 ?l10 ?c10 ?k10 ?a11 ?l11 ?c11 ?k11 ?a12 ?l12 ?c12 ?k12 ?a13 ?l13 ?c13 ?k13 ?a14 ?l14 ?c14 ?k14 ?zc_MOST ?z_bool ?z_isinstance ?z_len ?z_list ?z_range
    (case a1 => k_is)
    (case l1 => k_is)
    (case c1 => k_is)
    (case k1 => k_is)
    (case a2 => k_is)
    (case l2 => k_is)
    (case c2 => k_is)
    (case k2 => k_is)
    (case a3 => k_is)
    (case l3 => k_is)
    (case c3 => k_is)
    (case k3 => k_is)
    (case a4 => k_is)
    (case l4 => k_is)
    (case c4 => k_is)
    (case k4 => k_is)
    (case a5 => k_is)
    (case l5 => k_is)
    (case c5 => k_is)
    (case k5 => k_is)
    (case a6 => k_is)
    (case l6 => k_is)
    (case c6 => k_is)
    (case k6 => k_is)
    (case a7 => k_is)
    (case l7 => k_is)
    (case c7 => k_is)
    (case k7 => k_is)
    (case a8 => k_is)
    (case l8 => k_is)
    (case c8 => k_is)
    (case k8 => k_is)
    (case a9 => k_is)
    (case l9 => k_is)
    (case c9 => k_is)
    (case k9 => k_is)
    (case a10 => k_is)
    (case l10 => k_is)
    (case c10 => k_is)
    (case k10 => k_is)
    (case a11 => k_is)
    (case l11 => k_is)
    (case c11 => k_is)
    (case k11 => k_is)
    (case a12 => k_is)
    (case l12 => k_is)
    (case c12 => k_is)
    (case k12 => k_is)
    (case a13 => k_is)
    (case l13 => k_is)
    (case c13 => k_is)
    (case k13 => k_is)
    (case a14 => k_is)
    (case l14 => k_is)
    (case c14 => k_is)
    (case k14 => k_is)
    (case zc_MOST => k_is)
    (case z_bool => k_is)
    (case z_isinstance => k_is)
    (case z_len => k_is)
    (case z_list => k_is)
    (case z_range => k_is)
#print axioms PySem.Challenge.cw_everyseat_k09_rules_judged_holds
