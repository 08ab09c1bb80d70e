import PyProof.Rows.All
import Wide.All
import OpenK.AllK
import Wide.FinOn
import HandS.ForMost
import HandS.ForExc
import HandS.Wide
import HandS.Flow
import HandS.Evl
import HandS.Conv
import HandS.IsInst
import KE.SortData
import KE.DatumMoreOrd
import KE.DatumIndex
import HandS.Walk
import HandS.TupSets
import HandS.TryOnly
import HandS.Codes
import HandS.Dict
import HandS.TupLe
import HandS.List
import KE.KDictPairs
import HandS.Exc
import HandS.ExcIs
import HandS.ExcValue
import PyProof.Rows.CountFlat
import HandS.Style
import PySem.Challenge.RW_everyseat_k46_balance
set_option Elab.async false
set_option linter.all false
set_option maxRecDepth 100000
set_option maxHeartbeats 4000000
/-! My own layer over HandS: mirrors in an error monad, represented data, owned cells. -/
namespace PG
open PySem L2

/-! ### the mirrors' monad -/
inductive Er where
  | bad
  | exc (n : String)
  deriving DecidableEq
abbrev M := Except Er
def wp {a : Type} (m : M a) (Q : a → Prop) (E : String → Prop) : Prop :=
  match m with
  | .ok x => Q x
  | .error .bad => False
  | .error (.exc n) => E n
section
variable {a b : Type} {Q : a → Prop} {R : b → Prop} {E E' : String → Prop}
theorem wp_ok {x : a} : wp (Except.ok x : M a) Q E = Q x := rfl
theorem wp_pure {x : a} : wp (pure x : M a) Q E = Q x := rfl
theorem wp_bind {m : M b} {k : b → M a} : wp (m >>= k) Q E ↔ wp m (fun x => wp (k x) Q E) E := by
  cases m with
  | ok x => exact Iff.rfl
  | error e => cases e <;> exact Iff.rfl
theorem wp_call {m : M b} {k : b → M a} {E1 : String → Prop} (h : wp (m >>= k) Q E) (hr : ∀ r, m = .ok r → wp (k r) Q E → R r) (he : ∀ n, E n → E1 n) : wp m R E1 := by
  cases m with
  | ok x => exact hr x rfl h
  | error e =>
    cases e with
    | bad => exact h
    | exc n => exact he n h
/-- the last call of a def -/
theorem wp_tail {m : M a} {E1 : String → Prop} {R : a → Prop} (h : wp m Q E) (hr : ∀ r, m = .ok r → Q r → R r) (he : ∀ n, E n → E1 n) : wp m R E1 := by
  cases m with
  | ok x => exact hr x rfl h
  | error e =>
    cases e with
    | bad => exact h
    | exc n => exact he n h
def bad : M a := .error .bad
def raise (n : String) : M a := .error (.exc n)
theorem wp_bad {P : Prop} (h : wp (bad : M a) Q E) : P := h.elim
/-- a guard -/
@[irreducible] def chk (c : Prop) [Decidable c] : M Unit := if c then .ok () else bad
theorem wp_chk {c : Prop} [Decidable c] {k : Unit → M a} (h : wp (chk c >>= k) Q E) : c ∧ wp (k ()) Q E := by
  unfold chk at h
  by_cases hc : c
  · rw [if_pos hc] at h
    exact ⟨hc, h⟩
  · rw [if_neg hc] at h
    exact h.elim
/-- something that is there -/
def opt (o : Option b) : M b := match o with
  | some x => .ok x
  | none => bad
theorem wp_opt {o : Option b} {k : b → M a} (h : wp (opt o >>= k) Q E) : ∃ x, o = some x ∧ wp (k x) Q E := by
  cases o with
  | none => exact h.elim
  | some x => exact ⟨x, rfl, h⟩
/-- no exception leaves -/
def nox (m : M a) : M a := match m with
  | .ok x => .ok x
  | .error _ => bad
theorem wp_nox {m : M b} {k : b → M a} (h : wp (nox m >>= k) Q E) : ∃ x, m = .ok x ∧ wp (k x) Q E := by
  cases m with
  | ok x => exact ⟨x, rfl, h⟩
  | error e => exact h.elim
theorem wp_of_ok {m : M b} {x : b} (e : m = .ok x) (h : R x) : wp m R E := by
  rw [e]
  exact h
theorem wp_ite {c : Prop} [Decidable c] {x y : M a} (h : wp (if c then x else y) Q E) : (c → wp x Q E) ∧ (¬ c → wp y Q E) := by
  by_cases hc : c
  · rw [if_pos hc] at h
    exact ⟨fun _ => h, fun n => (n hc).elim⟩
  · rw [if_neg hc] at h
    exact ⟨fun p => (hc p).elim, fun _ => h⟩
end

/-! ### loops -/
/-- a turn's end: on to the next, or the def's return -/
inductive Fl (s r : Type) where
  | nx (x : s)
  | rt (x : r)
section
variable {i s r a : Type}
def loopM (b : i → s → M (Fl s r)) : List i → s → M (Fl s r)
  | [], x => .ok (.nx x)
  | y :: ys, x => b y x >>= fun
    | .nx x' => loopM b ys x'
    | .rt z => .ok (.rt z)
/-- a loop without return -/
def loopN (b : i → s → M s) : List i → s → M s
  | [], x => .ok x
  | y :: ys, x => b y x >>= fun x' => loopN b ys x'
def whileM (c : s → M Bool) (b : s → M (Fl s r)) : Nat → s → M (Fl s r)
  | 0, _ => bad
  | n + 1, x => c x >>= fun t => if t = true then b x >>= fun
      | .nx x' => whileM c b n x'
      | .rt z => .ok (.rt z)
    else .ok (.nx x)
def whileN (c : s → M Bool) (b : s → M s) : Nat → s → M s
  | 0, _ => bad
  | n + 1, x => c x >>= fun t => if t = true then b x >>= fun x' => whileN c b n x' else .ok x
/-- a comprehension: f gives an element, or none where the test fails -/
def compN (b : i → s → M (Option a × s)) : List i → s → M (List a × s)
  | [], x => .ok ([], x)
  | y :: ys, x => b y x >>= fun p => compN b ys p.2 >>= fun q => .ok (match p.1 with
    | some z => z :: q.1
    | none => q.1, q.2)
/-- .. that changes nothing -/
def compM (b : i → M (Option a)) : List i → M (List a)
  | [] => .ok []
  | y :: ys => b y >>= fun p => compM b ys >>= fun q => .ok (match p with
    | some z => z :: q
    | none => q)
end

/-! ### what a value stands for -/
open PySem.W (T3 T4 Datum DatumOrd)
mutual
inductive Rep (H : Hp) : V → PyData → Prop
  | non : Rep H .non .none
  | bl (b : Bool) : Rep H (.bl b) (.bool b)
  | int (i : Int) : Rep H (.int i) (.int i)
  | str (x : Str) : Rep H (.str x) (.str x)
  | lst {a : Addr} {xs : List V} {ds : List PyData} : H a = some (.lst xs) → RepA H xs ds → Rep H (.ref a) (.list ds)
  | tup {a : Addr} {xs : List V} {ds : List PyData} : H a = some (.tup xs) → RepA H xs ds → Rep H (.ref a) (.tuple ds)
inductive RepA (H : Hp) : List V → List PyData → Prop
  | nil : RepA H [] []
  | cons {v : V} {vs : List V} {d : PyData} {ds : List PyData} : Rep H v d → RepA H vs ds → RepA H (v :: vs) (d :: ds)
end
mutual
theorem Rep.mono {H H' : Hp} (s : Same H H') : ∀ (d : PyData) (v : V), Rep H v d → Rep H' v d
  | .none, _, h => by cases h; exact .non
  | .bool _, _, h => by cases h; exact .bl _
  | .int _, _, h => by cases h; exact .int _
  | .str _, _, h => by cases h; exact .str _
  | .list ds, _, h => by
    cases h with
    | lst ha hs => exact .lst (s _ _ ha) (RepA.mono s ds _ hs)
  | .tuple ds, _, h => by
    cases h with
    | tup ha hs => exact .tup (s _ _ ha) (RepA.mono s ds _ hs)
  | .dict _, _, h => by cases h
theorem RepA.mono {H H' : Hp} (s : Same H H') : ∀ (ds : List PyData) (vs : List V), RepA H vs ds → RepA H' vs ds
  | [], _, h => by cases h; exact .nil
  | d :: ds, _, h => by
    cases h with
    | cons h1 h2 => exact .cons (Rep.mono s d _ h1) (RepA.mono s ds _ h2)
end
mutual
theorem Rep.dp {K : PySem.W.Frag} {H : Hp} : ∀ (d : PyData) (v : V), Rep H v d → Dp K H v d
  | .none, _, h => by cases h; exact .non
  | .bool _, _, h => by cases h; exact .bl _
  | .int _, _, h => by cases h; exact .int _
  | .str _, _, h => by cases h; exact .str _
  | .list ds, _, h => by
    cases h with
    | lst ha hs => exact .lst (SqL.of ha) (RepA.dp ds _ hs)
  | .tuple ds, _, h => by
    cases h with
    | tup ha hs => exact .tup (SqT.of ha) (RepA.dp ds _ hs)
  | .dict _, _, h => by cases h
theorem RepA.dp {K : PySem.W.Frag} {H : Hp} : ∀ (ds : List PyData) (vs : List V), RepA H vs ds → DpAll K H vs ds
  | [], _, h => by cases h; exact .nil
  | d :: ds, _, h => by
    cases h with
    | cons h1 h2 => exact .cons (Rep.dp d _ h1) (RepA.dp ds _ h2)
end

/-- a Lean type whose values are Python's data -/
class Py (a : Type) where
  toD : a → PyData
instance : Py Int := ⟨.int⟩
instance : Py Bool := ⟨.bool⟩
instance : Py Str := ⟨.str⟩
instance : Py Unit := ⟨fun _ => .none⟩
instance {a : Type} [Py a] : Py (List a) := ⟨fun xs => .list (xs.map Py.toD)⟩
instance {a b : Type} [Py a] [Py b] : Py (a × b) := ⟨fun p => .tuple [Py.toD p.1, Py.toD p.2]⟩
instance {a b c : Type} [Py a] [Py b] [Py c] : Py (T3 a b c) := ⟨fun p => .tuple [Py.toD p.a, Py.toD p.b, Py.toD p.c]⟩
instance {a b c d : Type} [Py a] [Py b] [Py c] [Py d] : Py (T4 a b c d) := ⟨fun p => .tuple [Py.toD p.a, Py.toD p.b, Py.toD p.c, Py.toD p.d]⟩
instance {a : Type} [Py a] : Py (Option a) := ⟨fun o => match o with
  | none => .none
  | some x => Py.toD x⟩
class IsD (a : Type) [Py a] [DecidableEq a] [Datum a] : Prop where
  eq : ∀ x : a, Py.toD x = Datum.toD x
instance : IsD Int := ⟨fun _ => rfl⟩
instance : IsD Bool := ⟨fun _ => rfl⟩
instance : IsD Str := ⟨fun _ => rfl⟩
instance : IsD Unit := ⟨fun _ => rfl⟩
section
variable {a b c d : Type} [Py a] [DecidableEq a] [Datum a] [IsD a] [Py b] [DecidableEq b] [Datum b] [IsD b] [Py c] [DecidableEq c] [Datum c] [IsD c] [Py d] [DecidableEq d] [Datum d] [IsD d]
theorem map_toD (xs : List a) : xs.map (Py.toD : a → PyData) = xs.map Datum.toD := List.map_congr_left fun x _ => IsD.eq x
instance : IsD (List a) := ⟨fun xs => congrArg PyData.list (map_toD xs)⟩
instance : IsD (a × b) := ⟨fun p => by show PyData.tuple [_, _] = PyData.tuple [_, _]; rw [IsD.eq, IsD.eq]⟩
instance : IsD (T3 a b c) := ⟨fun p => by show PyData.tuple [_, _, _] = PyData.tuple [_, _, _]; rw [IsD.eq, IsD.eq, IsD.eq]⟩
instance : IsD (T4 a b c d) := ⟨fun p => by show PyData.tuple [_, _, _, _] = PyData.tuple [_, _, _, _]; rw [IsD.eq, IsD.eq, IsD.eq, IsD.eq]⟩
instance [PySem.W.SomeDatum a] : IsD (Option a) := ⟨fun o => by
  cases o with
  | none => rfl
  | some x => exact IsD.eq x⟩
end

/-- v stands for x -/
def R {a : Type} [Py a] (H : Hp) (v : V) (x : a) : Prop := Rep H v (Py.toD x)
/-- item by item -/
def RL {a : Type} [Py a] (H : Hp) (vs : List V) (xs : List a) : Prop := RepA H vs (xs.map Py.toD)
section
variable {H H' : Hp} {v : V} {vs : List V} {p q : Addr}
theorem R.mono {a : Type} [Py a] {x : a} (h : R H v x) (s : Same H H') : R H' v x := Rep.mono s _ _ h
theorem RL.mono {a : Type} [Py a] {xs : List a} (h : RL H vs xs) (s : Same H H') : RL H' vs xs := RepA.mono s _ _ h
theorem R.int {i : Int} : R H (.int i) i := Rep.int i
theorem R.bl {b : Bool} : R H (.bl b) b := Rep.bl b
theorem R.str {x : Str} : R H (.str x) x := Rep.str x
theorem R.unit {u : Unit} : R H .non u := Rep.non
theorem R.non {a : Type} [Py a] : R H .non (none : Option a) := Rep.non
theorem R.jst {a : Type} [Py a] {x : a} (h : R H v x) : R H v (some x) := h
theorem R.int_ {i : Int} (h : R H v i) : v = .int i := by cases h; rfl
theorem R.bl_ {b : Bool} (h : R H v b) : v = .bl b := by cases h; rfl
theorem R.str_ {x : Str} (h : R H v x) : v = .str x := by cases h; rfl
theorem R.unit_ {u : Unit} (h : R H v u) : v = .non := by cases h; rfl
theorem R.non_ {a : Type} [Py a] (h : R H v (none : Option a)) : v = .non := by cases h; rfl
theorem R.jst_ {a : Type} [Py a] {x : a} (h : R H v (some x)) : R H v x := h
variable {a b c d : Type} [Py a] [Py b] [Py c] [Py d]
theorem R.lst {xs : List a} (ha : H p = some (.lst vs)) (h : RL H vs xs) : R H (.ref p) xs := Rep.lst ha h
theorem R.lst_ {xs : List a} (h : R H v xs) : ∃ p vs, v = .ref p ∧ H p = some (.lst vs) ∧ RL H vs xs := by
  have h' : Rep H v (.list (xs.map Py.toD)) := h
  cases h' with
  | lst ha hs => exact ⟨_, _, rfl, ha, hs⟩
theorem R.t2 {x : a × b} {v1 v2 : V} (ha : H p = some (.tup [v1, v2])) (h1 : R H v1 x.1) (h2 : R H v2 x.2) : R H (.ref p) x := Rep.tup ha (.cons h1 (.cons h2 .nil))
theorem R.t2_ {x : a × b} (h : R H v x) : ∃ p v1 v2, v = .ref p ∧ H p = some (.tup [v1, v2]) ∧ R H v1 x.1 ∧ R H v2 x.2 := by
  have h' : Rep H v (.tuple [_, _]) := h
  cases h' with
  | tup ha hs =>
    cases hs with
    | cons h1 hs =>
      cases hs with
      | cons h2 hs =>
        cases hs
        exact ⟨_, _, _, rfl, ha, h1, h2⟩
theorem R.t3 {x : T3 a b c} {v1 v2 v3 : V} (ha : H p = some (.tup [v1, v2, v3])) (h1 : R H v1 x.a) (h2 : R H v2 x.b) (h3 : R H v3 x.c) : R H (.ref p) x := Rep.tup ha (.cons h1 (.cons h2 (.cons h3 .nil)))
theorem R.t3_ {x : T3 a b c} (h : R H v x) : ∃ p v1 v2 v3, v = .ref p ∧ H p = some (.tup [v1, v2, v3]) ∧ R H v1 x.a ∧ R H v2 x.b ∧ R H v3 x.c := by
  have h' : Rep H v (.tuple [_, _, _]) := h
  cases h' with
  | tup ha hs =>
    cases hs with
    | cons h1 hs =>
      cases hs with
      | cons h2 hs =>
        cases hs with
        | cons h3 hs =>
          cases hs
          exact ⟨_, _, _, _, rfl, ha, h1, h2, h3⟩
theorem R.t4 {x : T4 a b c d} {v1 v2 v3 v4 : V} (ha : H p = some (.tup [v1, v2, v3, v4])) (h1 : R H v1 x.a) (h2 : R H v2 x.b) (h3 : R H v3 x.c) (h4 : R H v4 x.d) : R H (.ref p) x :=
  Rep.tup ha (.cons h1 (.cons h2 (.cons h3 (.cons h4 .nil))))
theorem R.t4_ {x : T4 a b c d} (h : R H v x) : ∃ p v1 v2 v3 v4, v = .ref p ∧ H p = some (.tup [v1, v2, v3, v4]) ∧ R H v1 x.a ∧ R H v2 x.b ∧ R H v3 x.c ∧ R H v4 x.d := by
  have h' : Rep H v (.tuple [_, _, _, _]) := h
  cases h' with
  | tup ha hs =>
    cases hs with
    | cons h1 hs =>
      cases hs with
      | cons h2 hs =>
        cases hs with
        | cons h3 hs =>
          cases hs with
          | cons h4 hs =>
            cases hs
            exact ⟨_, _, _, _, _, rfl, ha, h1, h2, h3, h4⟩
theorem RL.nil : RL H [] ([] : List a) := RepA.nil
theorem RL.cons {x : a} {xs : List a} (h : R H v x) (hs : RL H vs xs) : RL H (v :: vs) (x :: xs) := RepA.cons h hs
theorem RL.cons_ {x : a} {xs : List a} (h : RL H vs (x :: xs)) : ∃ w ws, vs = w :: ws ∧ R H w x ∧ RL H ws xs := by
  have h' : RepA H vs (Py.toD x :: xs.map Py.toD) := h
  cases h' with
  | cons h1 h2 => exact ⟨_, _, rfl, h1, h2⟩
theorem RL.nil_ (h : RL H vs ([] : List a)) : vs = [] := by
  have h' : RepA H vs [] := h
  cases h'
  rfl
theorem RL.len : ∀ {vs : List V} {xs : List a}, RL H vs xs → vs.length = xs.length
  | _, [], h => by rw [RL.nil_ h]; rfl
  | _, x :: xs, h => by
    obtain ⟨w, ws, rfl, _, h2⟩ := RL.cons_ h
    rw [List.length_cons, List.length_cons, RL.len h2]
theorem RL.app : ∀ {vs ws : List V} {xs ys : List a}, RL H vs xs → RL H ws ys → RL H (vs ++ ws) (xs ++ ys)
  | _, _, [], _, h, k => by rw [RL.nil_ h]; exact k
  | _, _, x :: xs, _, h, k => by
    obtain ⟨w, ws', rfl, h1, h2⟩ := RL.cons_ h
    exact RL.cons h1 (RL.app h2 k)
theorem RL.snoc {x : a} {xs : List a} (h : RL H vs xs) (k : R H v x) : RL H (vs ++ [v]) (xs ++ [x]) := RL.app h (RL.cons k RL.nil)
theorem RL.get : ∀ {vs : List V} {xs : List a}, RL H vs xs → ∀ {i : Nat} {x : a}, xs[i]? = some x → ∃ w, vs[i]? = some w ∧ R H w x
  | _, [], _, i, x, e => by simp at e
  | _, y :: ys, h, i, x, e => by
    obtain ⟨w, ws, rfl, h1, h2⟩ := RL.cons_ h
    cases i with
    | zero =>
      cases (Option.some.inj e : y = x)
      exact ⟨w, rfl, h1⟩
    | succ i => exact RL.get h2 (i := i) (by simpa using e)
theorem RL.got : ∀ {vs : List V} {xs : List a}, RL H vs xs → ∀ {i : Nat} {w : V}, vs[i]? = some w → ∃ x, xs[i]? = some x ∧ R H w x
  | _, [], h, i, w, e => by rw [RL.nil_ h] at e; simp at e
  | _, y :: ys, h, i, w, e => by
    obtain ⟨w', ws, rfl, h1, h2⟩ := RL.cons_ h
    cases i with
    | zero =>
      cases (Option.some.inj e : w' = w)
      exact ⟨y, rfl, h1⟩
    | succ i => exact RL.got h2 (i := i) (by simpa using e)
theorem RL.atI {xs : List a} (h : RL H vs xs) {i : Int} {x : a} (e : L2.atI xs i = some x) : ∃ w, L2.atI vs i = some w ∧ R H w x := by
  unfold L2.atI at e ⊢
  rw [h.len]
  cases q : ixN xs.length i with
  | none => rw [q] at e; cases e
  | some j =>
    rw [q] at e
    exact h.get e
theorem RL.take : ∀ {vs : List V} {xs : List a} (n : Nat), RL H vs xs → RL H (vs.take n) (xs.take n)
  | _, _, 0, _ => RL.nil
  | _, [], n + 1, h => by rw [RL.nil_ h]; exact RL.nil
  | _, x :: xs, n + 1, h => by
    obtain ⟨w, ws, rfl, h1, h2⟩ := RL.cons_ h
    exact RL.cons h1 (RL.take n h2)
theorem RL.drop : ∀ {vs : List V} {xs : List a} (n : Nat), RL H vs xs → RL H (vs.drop n) (xs.drop n)
  | _, _, 0, h => h
  | _, [], n + 1, h => by rw [RL.nil_ h]; exact RL.nil
  | _, x :: xs, n + 1, h => by
    obtain ⟨w, ws, rfl, h1, h2⟩ := RL.cons_ h
    exact RL.drop n h2
theorem RL.set : ∀ {vs : List V} {xs : List a} (n : Nat) {w : V} {y : a}, RL H vs xs → R H w y → RL H (vs.set n w) (xs.set n y)
  | _, [], n, _, _, h, _ => by rw [RL.nil_ h]; exact RL.nil
  | _, x :: xs, 0, _, _, h, k => by
    obtain ⟨w, ws, rfl, h1, h2⟩ := RL.cons_ h
    exact RL.cons k h2
  | _, x :: xs, n + 1, _, _, h, k => by
    obtain ⟨w, ws, rfl, h1, h2⟩ := RL.cons_ h
    exact RL.cons h1 (RL.set n h2 k)
theorem RL.erase : ∀ {vs : List V} {xs : List a} (n : Nat), RL H vs xs → RL H (vs.eraseIdx n) (xs.eraseIdx n)
  | _, [], n, h => by rw [RL.nil_ h]; exact RL.nil
  | _, x :: xs, 0, h => by
    obtain ⟨w, ws, rfl, h1, h2⟩ := RL.cons_ h
    exact h2
  | _, x :: xs, n + 1, h => by
    obtain ⟨w, ws, rfl, h1, h2⟩ := RL.cons_ h
    exact RL.cons h1 (RL.erase n h2)
theorem RL.dropLast : ∀ {vs : List V} {xs : List a}, RL H vs xs → RL H vs.dropLast xs.dropLast
  | _, [], h => by rw [RL.nil_ h]; exact RL.nil
  | _, x :: xs, h => by
    obtain ⟨w, ws, rfl, h1, h2⟩ := RL.cons_ h
    cases xs with
    | nil => rw [RL.nil_ h2]; exact RL.nil
    | cons y ys =>
      obtain ⟨w2, ws2, rfl, _, _⟩ := RL.cons_ h2
      exact RL.cons h1 (RL.dropLast h2)
theorem RL.rev : ∀ {vs : List V} {xs : List a}, RL H vs xs → RL H vs.reverse xs.reverse
  | _, [], h => by rw [RL.nil_ h]; exact RL.nil
  | _, x :: xs, h => by
    obtain ⟨w, ws, rfl, h1, h2⟩ := RL.cons_ h
    rw [List.reverse_cons, List.reverse_cons]
    exact RL.snoc (RL.rev h2) h1
theorem RL.ints : ∀ {vs : List V} {xs : List Int}, RL H vs xs → vs = xs.map V.int
  | _, [], h => RL.nil_ h
  | _, x :: xs, h => by
    obtain ⟨w, ws, rfl, h1, h2⟩ := RL.cons_ h
    rw [R.int_ h1, RL.ints h2]
    rfl
theorem RL.of_ints : ∀ {xs : List Int}, RL H (xs.map V.int) xs
  | [] => RL.nil
  | x :: xs => RL.cons R.int RL.of_ints
theorem RL.bls : ∀ {vs : List V} {xs : List Bool}, RL H vs xs → vs = xs.map V.bl
  | _, [], h => RL.nil_ h
  | _, x :: xs, h => by
    obtain ⟨w, ws, rfl, h1, h2⟩ := RL.cons_ h
    rw [R.bl_ h1, RL.bls h2]
    rfl
theorem RL.strs : ∀ {vs : List V} {xs : List Str}, RL H vs xs → vs = xs.map V.str
  | _, [], h => RL.nil_ h
  | _, x :: xs, h => by
    obtain ⟨w, ws, rfl, h1, h2⟩ := RL.cons_ h
    rw [R.str_ h1, RL.strs h2]
    rfl
theorem RL.of_strs : ∀ {xs : List Str}, RL H (xs.map V.str) xs
  | [] => RL.nil
  | x :: xs => RL.cons R.str RL.of_strs
theorem RL.cut {xs : List a} (h : RL H vs xs) (lo hi : Option Int) : RL H (cutV vs lo hi) ((xs.drop (HT.sIx xs.length 0 lo)).take (HT.sIx xs.length xs.length hi - HT.sIx xs.length 0 lo)) := by
  unfold cutV
  rw [h.len]
  exact (h.drop _).take _
end

/-! ### owned cells: F is what is read alone, cs are the cells that the code may change -/
/-- what is known of the heap behind a def, by the heap at its entry; the cells at as may have changed -/
structure Gr (as : List Addr) (F H F' H' : Hp) : Prop where
  f : Same F F'
  s : Same F' H'
  k : ∀ b o, b ∉ as → H b = some o → H' b = some o
  t : ∀ b, H b ≠ none → H' b ≠ none
  n : ∀ b, H b ≠ none → F' b = F b ∨ ∃ xs, H b = some (.tup xs)
  u : ∀ b xs, H' b = some (.tup xs) → H b = none ∨ H b = some (.tup xs)
/-- what may be a cell -/
def noTup : HO → Bool
  | .tup _ => false
  | _ => true
structure Kp (as : List Addr) (H H' : Hp) : Prop where
  k : ∀ b o, b ∉ as → H b = some o → H' b = some o
  t : ∀ b, H b ≠ none → H' b ≠ none
/-- the entry of a def -/
structure Ent where
  as : List Addr
  F : Hp
  H : Hp
structure Ow (Z : Ent) (F : Hp) (cs : List (Addr × HO)) (H : Hp) : Prop where
  g : Gr Z.as Z.F Z.H F H
  cf : ∀ c ∈ cs, F c.1 = none
  ch : ∀ c ∈ cs, H c.1 = some c.2
  nd : (cs.map (·.1)).Nodup
  ca : ∀ c ∈ cs, c.1 ∈ Z.as ∨ Z.H c.1 = none
  nt : ∀ c ∈ cs, noTup c.2 = true
/-- what a def asks of its cells -/
structure Pre (F : Hp) (cs : List (Addr × HO)) (H : Hp) : Prop where
  s : Same F H
  cf : ∀ c ∈ cs, F c.1 = none
  ch : ∀ c ∈ cs, H c.1 = some c.2
  nd : (cs.map (·.1)).Nodup
  nt : ∀ c ∈ cs, noTup c.2 = true
theorem Same.new {H : Hp} {p : Addr} {o : HO} (h : H p = none) : Same H (upd H p o) := fun b u e => by
  rw [upd_ne (ne_of_none e h)]
  exact e
theorem Same.upd2 {F H : Hp} {p : Addr} {o : HO} (s : Same F H) : Same (upd F p o) (upd H p o) := fun b u e => by
  by_cases hb : b = p
  · subst hb
    rw [upd_same] at e ⊢
    exact e
  · rw [upd_ne hb] at e ⊢
    exact s b u e
theorem Same.no {F H : Hp} {p : Addr} (s : Same F H) (h : H p = none) : F p = none := Same.free s h
section
variable {Z : Ent} {F F' H H' : Hp} {cs : List (Addr × HO)} {p a : Addr} {o o' : HO}
theorem Pre.start (P : Pre F cs H) : Ow ⟨cs.map (·.1), F, H⟩ F cs H where
  g := ⟨Same.refl _, P.s, fun _ _ _ e => e, fun _ e => e, fun _ _ => .inl rfl, fun _ _ e => .inr e⟩
  cf := P.cf
  ch := P.ch
  nd := P.nd
  ca := fun c hc => .inl (List.mem_map.mpr ⟨c, hc, rfl⟩)
  nt := P.nt
theorem Ow.s (O : Ow Z F cs H) : Same F H := O.g.s
theorem Ow.pre (O : Ow Z F cs H) : Pre F cs H := ⟨O.g.s, O.cf, O.ch, O.nd, O.nt⟩
theorem Ow.pre0 (O : Ow Z F cs H) : Pre F [] H := ⟨O.g.s, (fun _ h => nomatch h), (fun _ h => nomatch h), List.nodup_nil, fun _ h => nomatch h⟩
theorem Ow.pre1 (O : Ow Z F cs H) (i : Nat) (e : cs[i]? = some (a, o)) : Pre F [(a, o)] H := by
  have m := List.mem_of_getElem? e
  refine ⟨O.g.s, fun c hc => ?_, fun c hc => ?_, by simp, fun c hc => ?_⟩
  · rw [List.mem_singleton.mp hc]; exact O.cf _ m
  · rw [List.mem_singleton.mp hc]; exact O.ch _ m
  · rw [List.mem_singleton.mp hc]; exact O.nt _ m
theorem Ow.at (O : Ow Z F cs H) (i : Nat) (e : cs[i]? = some (a, o)) : H a = some o := O.ch _ (List.mem_of_getElem? e)
theorem Ow.no (O : Ow Z F cs H) (h : H p = none) : F p = none := Same.no O.s h
theorem Gr.new (g : Gr Z.as Z.F Z.H F H) (h : H p = none) : Gr Z.as Z.F Z.H F (upd H p o) where
  f := g.f
  s := g.s.trans (Same.new h)
  k := fun b u hb e => Same.new h b u (g.k b u hb e)
  t := fun b e z => by
    by_cases hb : b = p
    · subst hb; exact g.t _ e h
    · rw [upd_ne hb] at z; exact g.t b e z
  n := g.n
  u := fun b xs e => by
    by_cases hb : b = p
    · subst hb
      cases q : Z.H b with
      | none => exact .inl rfl
      | some u => exact absurd h (g.t b (by rw [q]; simp))
    · rw [upd_ne hb] at e; exact g.u b xs e
/-- a new cell -/
theorem Ow.new (O : Ow Z F cs H) (h : H p = none) (hn : noTup o = true := by rfl) : Ow Z F ((p, o) :: cs) (upd H p o) where
  g := O.g.new h
  cf := fun c hc => by
    rcases List.mem_cons.mp hc with rfl | hc
    · exact O.no h
    · exact O.cf c hc
  ch := fun c hc => by
    rcases List.mem_cons.mp hc with rfl | hc
    · exact upd_same
    · rw [upd_ne (ne_of_none (O.ch c hc) h)]; exact O.ch c hc
  nd := by
    rw [List.map_cons, List.nodup_cons]
    refine ⟨fun hm => ?_, O.nd⟩
    obtain ⟨c, hc, e⟩ := List.mem_map.mp hm
    have z := O.ch c hc
    rw [e] at z
    rw [z] at h
    cases h
  ca := fun c hc => by
    rcases List.mem_cons.mp hc with rfl | hc
    · refine .inr ?_
      cases q : Z.H p with
      | none => rfl
      | some u => exact absurd h (O.g.t p (by rw [q]; simp))
    · exact O.ca c hc
  nt := fun c hc => by
    rcases List.mem_cons.mp hc with rfl | hc
    · exact hn
    · exact O.nt c hc
/-- a new thing that is read alone -/
theorem Ow.put (O : Ow Z F cs H) (h : H p = none) : Ow Z (upd F p o) cs (upd H p o) where
  g := {
    f := O.g.f.trans (Same.new (O.no h))
    s := Same.upd2 O.g.s
    k := (O.g.new h).k
    t := (O.g.new h).t
    n := fun b e => by
      have hb : b ≠ p := fun z => by subst z; exact O.g.t _ e h
      rw [upd_ne hb]
      exact O.g.n b e
    u := (O.g.new h).u }
  cf := fun c hc => by rw [upd_ne (ne_of_none (O.ch c hc) h)]; exact O.cf c hc
  ch := fun c hc => by rw [upd_ne (ne_of_none (O.ch c hc) h)]; exact O.ch c hc
  nd := O.nd
  ca := O.ca
  nt := O.nt
theorem map_set_fst {i : Nat} (e : cs[i]? = some (a, o)) : (cs.set i (a, o')).map (·.1) = cs.map (·.1) := by
  rw [List.map_set]
  obtain ⟨h, e'⟩ := List.getElem?_eq_some_iff.mp e
  refine List.ext_getElem? fun j => ?_
  by_cases hj : i = j
  · subst hj
    rw [List.getElem?_set_self (by simpa using h), List.getElem?_map, e]
    rfl
  · rw [List.getElem?_set_ne hj]
theorem nd_other {i : Nat} (nd : (cs.map (·.1)).Nodup) (e : cs[i]? = some (a, o)) {c : Addr × HO} (hc : c ∈ cs.set i (a, o')) : c = (a, o') ∨ (c ∈ cs ∧ c.1 ≠ a) := by
  obtain ⟨j, hj⟩ := List.mem_iff_getElem?.mp hc
  by_cases hij : i = j
  · subst hij
    obtain ⟨h, _⟩ := List.getElem?_eq_some_iff.mp e
    rw [List.getElem?_set_self h] at hj
    exact .inl (Option.some.inj hj).symm
  · rw [List.getElem?_set_ne hij] at hj
    refine .inr ⟨List.mem_of_getElem? hj, fun z => hij ?_⟩
    have h1 : (cs.map (·.1))[i]? = some a := by rw [List.getElem?_map, e]; rfl
    have h2 : (cs.map (·.1))[j]? = some a := by rw [List.getElem?_map, hj, ← z]; rfl
    exact nd_ix nd h1 h2
/-- a cell is changed -/
theorem Ow.set (O : Ow Z F cs H) (i : Nat) (o' : HO) (e : cs[i]? = some (a, o)) (hn : noTup o' = true := by rfl) : Ow Z F (cs.set i (a, o')) (upd H a o') := by
  have m := List.mem_of_getElem? e
  have ha := O.ca _ m
  refine ⟨⟨O.g.f, fun b u q => ?_, fun b u hb q => ?_, fun b q z => ?_, O.g.n, fun b xs q => ?_⟩, fun c hc => ?_, fun c hc => ?_, ?_, fun c hc => ?_, fun c hc => ?_⟩
  · have hb : b ≠ a := fun z => by subst z; rw [O.cf _ m] at q; cases q
    rw [upd_ne hb]
    exact O.g.s b u q
  · have hba : b ≠ a := fun z => by
      subst z
      rcases ha with ha | ha
      · exact hb ha
      · have q' : Z.H b = some u := q
        have ha' : Z.H b = none := ha
        rw [ha'] at q'; cases q'
    rw [upd_ne hba]
    exact O.g.k b u hb q
  · by_cases hb : b = a
    · subst hb; rw [upd_same] at z; cases z
    · rw [upd_ne hb] at z; exact O.g.t b q z
  · by_cases hb : b = a
    · subst hb
      rw [upd_same] at q
      rw [Option.some.inj q] at hn
      cases hn
    · rw [upd_ne hb] at q; exact O.g.u b xs q
  · rcases nd_other O.nd e hc with rfl | ⟨h1, _⟩
    · exact O.cf (a, o) m
    · exact O.cf c h1
  · rcases nd_other O.nd e hc with rfl | ⟨h1, h2⟩
    · exact upd_same
    · rw [upd_ne h2]; exact O.ch c h1
  · rw [map_set_fst e]; exact O.nd
  · rcases nd_other O.nd e hc with rfl | ⟨h1, _⟩
    · exact ha
    · exact O.ca c h1
  · rcases nd_other O.nd e hc with rfl | ⟨h1, _⟩
    · exact hn
    · exact O.nt c h1
theorem mem_erase {i : Nat} {c : Addr × HO} (h : c ∈ cs.eraseIdx i) : c ∈ cs := List.mem_of_mem_eraseIdx h
theorem nd_erase {i : Nat} (h : (cs.map (·.1)).Nodup) : ((cs.eraseIdx i).map (·.1)).Nodup := by
  exact h.sublist ((List.eraseIdx_sublist cs i).map (fun x => x.1))
/-- a cell that nobody changes any more (it was not there at the entry) -/
theorem Ow.frz (O : Ow Z F cs H) (i : Nat) (e : cs[i]? = some (a, o)) (hz : Z.H a = none) : Ow Z (upd F a o) (cs.eraseIdx i) H := by
  have m := List.mem_of_getElem? e
  have h1 : ∀ c ∈ cs.eraseIdx i, c.1 ≠ a := fun c hc z => by
    have nd := O.nd
    obtain ⟨hi, e'⟩ := List.getElem?_eq_some_iff.mp e
    obtain ⟨j, hj⟩ := List.mem_iff_getElem?.mp hc
    rw [List.getElem?_eraseIdx] at hj
    have h1 : (cs.map (·.1))[i]? = some a := by rw [List.getElem?_map, e]; rfl
    by_cases hji : j < i
    · rw [if_pos hji] at hj
      have h2 : (cs.map (·.1))[j]? = some a := by rw [List.getElem?_map, hj, ← z]; rfl
      have := nd_ix nd h1 h2
      omega
    · rw [if_neg hji] at hj
      have h2 : (cs.map (·.1))[j + 1]? = some a := by rw [List.getElem?_map, hj, ← z]; rfl
      have := nd_ix nd h1 h2
      omega
  refine ⟨⟨O.g.f.trans (Same.new (O.cf _ m)), fun b u q => ?_, O.g.k, O.g.t, fun b q => ?_, O.g.u⟩, fun c hc => ?_, fun c hc => O.ch c (mem_erase hc), nd_erase O.nd, fun c hc => O.ca c (mem_erase hc), fun c hc => O.nt c (mem_erase hc)⟩
  · by_cases hb : b = a
    · subst hb; rw [upd_same] at q; rw [← q]; exact O.ch _ m
    · rw [upd_ne hb] at q; exact O.g.s b u q
  · have hb : b ≠ a := fun z => by subst z; exact q hz
    rw [upd_ne hb]
    exact O.g.n b q
  · rw [upd_ne (h1 c hc)]; exact O.cf c (mem_erase hc)
theorem Ow.drop (O : Ow Z F cs H) (i : Nat) : Ow Z F (cs.eraseIdx i) H := ⟨O.g, fun c hc => O.cf c (mem_erase hc), fun c hc => O.ch c (mem_erase hc), nd_erase O.nd, fun c hc => O.ca c (mem_erase hc), fun c hc => O.nt c (mem_erase hc)⟩
theorem Ow.frzS (O : Ow Z F cs H) (i : Nat) (e : cs[i]? = some (a, o)) : Same F (upd F a o) := Same.new (O.cf _ (List.mem_of_getElem? e))
theorem Ow.putS (O : Ow Z F cs H) (h : H p = none) : Same F (upd F p o) := Same.new (O.no h)
theorem Gr.then {as : List Addr} (g0 : Gr Z.as Z.F Z.H F H) (g : Gr as F H F' H') (ha : ∀ b ∈ as, b ∈ Z.as ∨ Z.H b = none) : Gr Z.as Z.F Z.H F' H' where
  f := g0.f.trans g.f
  s := g.s
  k := fun b u hb e => by
    refine g.k b u (fun z => ?_) (g0.k b u hb e)
    rcases ha b z with h | h
    · exact hb h
    · rw [h] at e; cases e
  t := fun b e => g.t b (g0.t b e)
  n := fun b e => by
    rcases g0.n b e with h0 | h0
    · rcases g.n b (g0.t b e) with h1 | ⟨xs, hx⟩
      · exact .inl (h1.trans h0)
      · rcases g0.u b xs hx with z | z
        · exact absurd z e
        · exact .inr ⟨xs, z⟩
    · exact .inr h0
  u := fun b xs e => by
    rcases g.u b xs e with z | z
    · refine .inl ?_
      cases q : Z.H b with
      | none => rfl
      | some u => exact absurd z (g0.t b (by rw [q]; simp))
    · exact g0.u b xs z
theorem Gr.none {as : List Addr} (g : Gr as F H F' H') {c : Addr × HO} (h : H c.1 = some c.2) (hn : noTup c.2 = true) (hf : F c.1 = Option.none) : F' c.1 = Option.none := by
  rcases g.n c.1 (by rw [h]; simp) with z | ⟨xs, z⟩
  · exact z.trans hf
  · rw [h] at z
    rw [Option.some.inj z] at hn
    cases hn
/-- behind a call that changes none of our cells -/
theorem Ow.call0 (O : Ow Z F cs H) (g : Gr [] F H F' H') : Ow Z F' cs H' where
  g := O.g.then g (fun _ h => nomatch h)
  cf := fun c hc => g.none (O.ch c hc) (O.nt c hc) (O.cf c hc)
  ch := fun c hc => g.k _ _ (fun h => nomatch h) (O.ch c hc)
  nd := O.nd
  ca := O.ca
  nt := O.nt
/-- .. one -/
theorem Ow.call1 (O : Ow Z F cs H) (g : Gr [a] F H F' H') (i : Nat) (e : cs[i]? = some (a, o)) (h' : H' a = some o') (hn : noTup o' = true := by rfl) : Ow Z F' (cs.set i (a, o')) H' := by
  have m := List.mem_of_getElem? e
  refine ⟨O.g.then g (fun b hb => by rw [List.mem_singleton.mp hb]; exact O.ca _ m), fun c hc => ?_, fun c hc => ?_, by rw [map_set_fst e]; exact O.nd, fun c hc => ?_, fun c hc => ?_⟩
  · rcases nd_other O.nd e hc with rfl | ⟨h1, _⟩
    · exact g.none (c := (a, o)) (O.ch (a, o) m) (O.nt (a, o) m) (O.cf (a, o) m)
    · exact g.none (O.ch c h1) (O.nt c h1) (O.cf c h1)
  · rcases nd_other O.nd e hc with rfl | ⟨h1, h2⟩
    · exact h'
    · exact g.k _ _ (fun z => h2 (List.mem_singleton.mp z)) (O.ch c h1)
  · rcases nd_other O.nd e hc with rfl | ⟨h1, _⟩
    · exact O.ca (a, o) m
    · exact O.ca c h1
  · rcases nd_other O.nd e hc with rfl | ⟨h1, _⟩
    · exact hn
    · exact O.nt c h1
/-- a cell that a call made -/
theorem Ow.add {H0 : Hp} {F0 : Hp} (O : Ow Z F cs H) (O0 : Ow Z F0 cs' H0) (hk : ∀ c ∈ cs, c.1 ∈ cs'.map (·.1)) (hn : H0 p = none) (hf : F p = none) (h : H p = some o) (ht : noTup o = true := by rfl) : Ow Z F ((p, o) :: cs) H where
  g := O.g
  cf := fun c hc => by
    rcases List.mem_cons.mp hc with rfl | hc
    · exact hf
    · exact O.cf c hc
  ch := fun c hc => by
    rcases List.mem_cons.mp hc with rfl | hc
    · exact h
    · exact O.ch c hc
  nd := by
    rw [List.map_cons, List.nodup_cons]
    refine ⟨fun hm => ?_, O.nd⟩
    obtain ⟨c, hc, e⟩ := List.mem_map.mp hm
    obtain ⟨c', hc', e'⟩ := List.mem_map.mp (hk c hc)
    have z := O0.ch c' hc'
    rw [e', e] at z
    rw [z] at hn
    cases hn
  ca := fun c hc => by
    rcases List.mem_cons.mp hc with rfl | hc
    · refine .inr ?_
      cases q : Z.H p with
      | none => rfl
      | some u => exact absurd hn (O0.g.t p (by rw [q]; simp))
    · exact O.ca c hc
  nt := fun c hc => by
    rcases List.mem_cons.mp hc with rfl | hc
    · exact ht
    · exact O.nt c hc
theorem Ow.kp (O : Ow Z F cs H) : Kp Z.as Z.H H := ⟨O.g.k, O.g.t⟩
theorem Kp.of {as : List Addr} {H0 H1 : Hp} (g : Gr as F H0 F' H1) : Kp as H0 H1 := ⟨g.k, g.t⟩
/-- an error of a call leaves this def -/
theorem Ow.kpCall {as : List Addr} {H1 : Hp} (O : Ow Z F cs H) (k : Kp as H H1) (ha : ∀ b ∈ as, ∃ o, (b, o) ∈ cs) : Kp Z.as Z.H H1 where
  k := fun b u hb e => by
    refine k.k b u (fun z => ?_) (O.g.k b u hb e)
    obtain ⟨o, hc⟩ := ha b z
    rcases O.ca _ hc with h | h
    · exact hb h
    · have h' : Z.H b = none := h
      rw [h'] at e; cases e
  t := fun b e => k.t b (O.g.t b e)
theorem Ow.kp0 {H1 : Hp} (O : Ow Z F cs H) (k : Kp [] H H1) : Kp Z.as Z.H H1 := O.kpCall k fun _ h => nomatch h
theorem Ow.kp1 {H1 : Hp} (O : Ow Z F cs H) (k : Kp [a] H H1) (i : Nat) (e : cs[i]? = some (a, o)) : Kp Z.as Z.H H1 := O.kpCall k fun b hb => by
  rw [List.mem_singleton.mp hb]
  exact ⟨o, List.mem_of_getElem? e⟩
end
end PG

set_option Elab.async false
set_option linter.all false
set_option maxRecDepth 100000
set_option maxHeartbeats 4000000
namespace PG
open PySem L2
open PySem.W (T3 T4 Datum DatumOrd Holds HoldAll EachIs)
/-! ### rules over typed data -/
section
variable {X : Cx} {pins : List (Addr × Obj)} {σ : St} {H : Hp} {s : Shared} {v : V} {u : Value} {vs : List V} {us : List Value}
theorem R.holds {a : Type} [Py a] [DecidableEq a] [Datum a] [IsD a] {x : a} (I : Inv X pins σ H s) (h : R H v x) (r : RelV v u) : Holds s.heap u x := by
  obtain ⟨as, q⟩ := Dp.reads I _ _ _ (Rep.dp _ _ h) r
  rw [IsD.eq] at q
  exact ⟨as, q⟩
theorem RL.holds {a : Type} [Py a] [DecidableEq a] [Datum a] [IsD a] {xs : List a} (I : Inv X pins σ H s) (h : RL H vs xs) (r : Vals vs us) : HoldAll s.heap us xs := by
  obtain ⟨as, q⟩ := Dp.readsAll I _ _ _ (RepA.dp _ _ h) r
  rw [map_toD] at q
  exact ⟨as, q⟩
end
section
variable {X : Cx} (a : Type) [Py a] [DecidableEq a] [Datum a] [IsD a]
def rEqT : R2 := fun x y H Q => ∃ p q : a, R H x p ∧ R H y q ∧ Q (.bl (decide (p = q))) H
def rNeT : R2 := fun x y H Q => ∃ p q : a, R H x p ∧ R H y q ∧ Q (.bl (decide (p ≠ q))) H
theorem op_eqT (hu : X.A.units + 64 < cLine) (hd : Datum.depth a ≤ 64 := by decide) : OpR X (compareOp .Eq) (rEqT a) := by
  intro pins s σ H x y v u Q I rx ry h
  obtain ⟨p, q, hp, hq, k⟩ := h
  exact PySem.W.eq_datum (hp.holds I rx) (hq.holds I ry) (by omega) ⟨.bl _, H, I, rfl, k⟩
theorem op_neT (hu : X.A.units + 64 < cLine) (hd : Datum.depth a ≤ 64 := by decide) : OpR X (compareOp .NotEq) (rNeT a) := by
  intro pins s σ H x y v u Q I rx ry h
  obtain ⟨p, q, hp, hq, k⟩ := h
  exact PySem.W.ne_datum (hp.holds I rx) (hq.holds I ry) (by omega) ⟨.bl _, H, I, rfl, k⟩
def rInT (neg : Bool) : R2 := fun x y H Q => ∃ (p : a) (l : Addr) (vs : List V) (ys : List a), R H x p ∧ y = .ref l ∧ (H l = some (.lst vs) ∨ H l = some (.tup vs)) ∧ RL H vs ys ∧ Q (.bl (if neg then decide (p ∉ ys) else decide (p ∈ ys))) H
end
section
variable {X : Cx} (a : Type) [Py a] [DecidableEq a] [Datum a] [IsD a]
theorem op_inT (hu : X.A.units + 64 < cLine) (hd : Datum.depth a ≤ 60 := by decide) : OpR X (compareOp .In) (rInT a false) := by
  intro pins s σ H x y v u Q I rx ry h
  obtain ⟨p, l, vs, ys, hp, rfl, hl, hy, k⟩ := h
  cases ry
  rcases hl with hl | hl
  · obtain ⟨its, rv, hL, _⟩ := I.list (SqL.of (K := X.K) hl)
    exact PySem.W.in_list_datum hL.isList (by simpa using hy.holds I rv) (hp.holds I rx) (by omega) ⟨.bl _, H, I, rfl, k⟩
  · obtain ⟨its, rv, hL, _⟩ := I.tuple (SqT.of (K := X.K) hl)
    exact PySem.W.in_tuple_datum (show s.heap.IsTuple l its.toArray from hL) (by simpa using hy.holds I rv) (hp.holds I rx) (by omega) ⟨.bl _, H, I, rfl, k⟩
theorem op_ninT (hu : X.A.units + 64 < cLine) (hd : Datum.depth a ≤ 60 := by decide) : OpR X (compareOp .NotIn) (rInT a true) := by
  intro pins s σ H x y v u Q I rx ry h
  obtain ⟨p, l, vs, ys, hp, rfl, hl, hy, k⟩ := h
  cases ry
  rcases hl with hl | hl
  · obtain ⟨its, rv, hL, _⟩ := I.list (SqL.of (K := X.K) hl)
    exact PySem.W.notIn_list_datum hL.isList (by simpa using hy.holds I rv) (hp.holds I rx) (by omega) ⟨.bl _, H, I, rfl, k⟩
  · obtain ⟨its, rv, hL, _⟩ := I.tuple (SqT.of (K := X.K) hl)
    exact PySem.W.notIn_tuple_datum (show s.heap.IsTuple l its.toArray from hL) (by simpa using hy.holds I rv) (hp.holds I rx) (by omega) ⟨.bl _, H, I, rfl, k⟩
end

/-! ### sorted -/
/-- how data may be sorted: all are tuples with an item, or none is a tuple or None -/
class SortB (a : Type) [DecidableEq a] [Datum a] : Prop where
  ok : (∀ x : a, ∃ d r, Datum.toD x = .tuple (d :: r)) ∨ ∀ x : a, Datum.toD x ≠ .none ∧ ∀ ds, Datum.toD x ≠ .tuple ds
instance : SortB Int := ⟨.inr fun x => ⟨(fun e => nomatch (show PyData.int x = .none from e)), fun ds e => nomatch (show PyData.int x = .tuple ds from e)⟩⟩
instance : SortB Str := ⟨.inr fun x => ⟨(fun e => nomatch (show PyData.str x = .none from e)), fun ds e => nomatch (show PyData.str x = .tuple ds from e)⟩⟩
section
variable {a b c : Type} [DecidableEq a] [Datum a] [DecidableEq b] [Datum b] [DecidableEq c] [Datum c]
instance : SortB (List a) := ⟨.inr fun x => ⟨(fun e => nomatch (show PyData.list _ = .none from e)), fun ds e => nomatch (show PyData.list _ = .tuple ds from e)⟩⟩
instance : SortB (a × b) := ⟨.inl fun x => ⟨_, _, rfl⟩⟩
instance : SortB (T3 a b c) := ⟨.inl fun x => ⟨_, _, rfl⟩⟩
end
/-- Python's order -/
def leT {a : Type} [DecidableEq a] [DatumOrd a] (x y : a) : Bool := !DatumOrd.lt y x
def sortT {a : Type} [DecidableEq a] [DatumOrd a] (xs : List a) : List a := xs.mergeSort leT
theorem dataLe_T {a β : Type} [DecidableEq a] [DatumOrd a] (f : β → a) : PySem.W.dataLe false (fun b => Datum.toD (f b)) = fun x y => leT (f x) (f y) := by
  funext x y
  rw [PySem.W.dataLe_eq]
  show (!PySem.W.dataLt (Datum.toD (f y)) (Datum.toD (f x))) = _
  rw [DatumOrd.lt_eq]
  rfl
section
variable {a : Type} [Py a] [DecidableEq a] [DatumOrd a] [IsD a] {H : Hp}
theorem each_pairs : ∀ {vs : List V} {xs : List a} {us : List Value}, RL H vs xs → Vals vs us → EachIs (fun (u : Value) (p : V × a) => RelV p.1 u ∧ R H p.1 p.2) us (vs.zip xs)
  | _, [], _, h, r => by
    rw [RL.nil_ h] at r ⊢
    cases r
    exact .nil
  | _, x :: xs, _, h, r => by
    obtain ⟨w, ws, rfl, h1, h2⟩ := RL.cons_ h
    cases r with
    | cons r1 r2 => exact .cons ⟨r1, h1⟩ (each_pairs h2 r2)
theorem pairs_vals : ∀ {ps : List (V × a)} {us : List Value}, EachIs (fun (u : Value) (p : V × a) => RelV p.1 u ∧ R H p.1 p.2) us ps → Vals (ps.map (·.1)) us ∧ RL H (ps.map (·.1)) (ps.map (·.2))
  | _, _, .nil => ⟨.nil, RL.nil⟩
  | _, _, .cons ⟨r1, h1⟩ t => ⟨.cons r1 (pairs_vals t).1, RL.cons h1 (pairs_vals t).2⟩
theorem each_imp {β γ : Type} {A B : β → γ → Prop} (f : ∀ x y, A x y → B x y) : ∀ {xs : List β} {ys : List γ}, EachIs A xs ys → EachIs B xs ys
  | _, _, .nil => .nil
  | _, _, .cons h t => .cons (f _ _ h) (each_imp f t)
theorem zip_snd : ∀ {vs : List V} {xs : List a}, vs.length = xs.length → (vs.zip xs).map (·.2) = xs
  | [], [], _ => rfl
  | v :: vs, x :: xs, h => by
    rw [List.zip_cons_cons, List.map_cons, zip_snd (by simpa using h)]
  | [], _ :: _, h => by simp at h
  | _ :: _, [], h => by simp at h
theorem sort_zip {vs : List V} {xs : List a} (h : vs.length = xs.length) : ((vs.zip xs).mergeSort fun p q => leT p.2 q.2).map (·.2) = sortT xs := by
  unfold sortT
  rw [List.map_mergeSort (s := leT) (fun _ _ _ _ => rfl), zip_snd h]
end
section
variable {a : Type} [Py a] [DecidableEq a] [DatumOrd a] [IsD a] {H : Hp}
def sortV (ws : List V) (xs : List a) : List V := ((ws.zip xs).mergeSort fun p q => leT p.2 q.2).map (·.1)
theorem RL.pairs : ∀ {ws : List V} {xs : List a}, RL H ws xs → ∀ p ∈ ws.zip xs, R H p.1 p.2
  | _, [], _, p, hp => by simp at hp
  | _, x :: xs, h, p, hp => by
    obtain ⟨w, ws, rfl, h1, h2⟩ := RL.cons_ h
    rw [List.zip_cons_cons] at hp
    rcases List.mem_cons.mp hp with rfl | hp
    · exact h1
    · exact RL.pairs h2 p hp
theorem RL.of_pairs : ∀ {ps : List (V × a)}, (∀ p ∈ ps, R H p.1 p.2) → RL H (ps.map (·.1)) (ps.map (·.2))
  | [], _ => RL.nil
  | p :: ps, h => RL.cons (h p List.mem_cons_self) (RL.of_pairs fun q hq => h q (List.mem_cons_of_mem _ hq))
theorem RL.sorted {ws : List V} {xs : List a} (h : RL H ws xs) : RL H (sortV ws xs) (sortT xs) := by
  have q : RL H (sortV ws xs) (((ws.zip xs).mergeSort fun p q => leT p.2 q.2).map (·.2)) := RL.of_pairs fun p hp => h.pairs p (List.mem_mergeSort.mp hp)
  rw [sort_zip h.len] at q
  exact q
end
section
variable {X : Cx} (a : Type) [Py a] [DecidableEq a] [DatumOrd a] [IsD a]
/-- sorted(xs) of a list: a new list -/
def rSortedT : List V → Hp → VK → Prop := fun vs H Q => ∃ (l : Addr) (ws : List V) (xs : List a), vs = [.ref l] ∧ H l = some (.lst ws) ∧ RL H ws xs ∧ ∀ (p : Addr), H p = none → Q (.ref p) (upd H p (.lst (sortV ws xs)))
theorem cr_sortedT [SortB a] (hu : X.A.units + 128 < cLine) (hd : Datum.depth a ≤ 100 := by decide) : CallR X (.builtin "sorted") (rSortedT a) := by
  intro pins s σ H vs us Q I r h
  obtain ⟨l, ws, xs, rfl, hl, hx, k⟩ := h
  obtain ⟨its, rv, hL, hz⟩ := I.list (SqL.of (K := X.K) hl)
  rw [Vals.ref1 r]
  have hlen : ws.length = xs.length := hx.len
  have hE := each_pairs hx rv
  refine PySem.W.sorted_data (bs := ws.zip xs) (enc := fun p => Datum.toD p.2) hL.isList hE (each_imp (fun u p hp => hp.2.holds I hp.1) hE) (PySem.W.AllAlike.of fun p q => DatumOrd.alike p.2 q.2) ?_ (by rw [List.length_zip, ← hlen, Nat.min_self]; exact hz) (fun p _ => ?_) fun out ho he => ?_
  · rcases SortB.ok (a := a) with q | q
    · exact PySem.W.Sortable.tuples fun p => q p.2
    · exact PySem.W.Sortable.others fun p => q p.2
  · have := Datum.depth_le p.2
    omega
  · rw [dataLe_T (fun p : V × a => p.2)] at he
    obtain ⟨q1, q2⟩ := pairs_vals he
    obtain ⟨ep, he'⟩ := PyProof.Rows.sortedAll_at s.heap its out.toArray
    refine ⟨.ref _, upd H (s.heap.objs.size + 1) (.lst _), I.laid (t' := s.toks) (fun _ _ => PyProof.Rows.sortedAll_old) (Nat.le_succ _) ⟨?_, out, ep, q1, he'⟩, rfl, k _ (I.hok.fresh (Nat.le_succ _))⟩
    rw [List.length_map, List.length_mergeSort, List.length_zip, ← hlen, Nat.min_self]
    exact hz
end
end PG

set_option Elab.async false
set_option linter.all false
set_option maxRecDepth 100000
set_option maxHeartbeats 4000000
namespace PG
open PySem PySem.Spec PyProof.Rows L2
open PySem.W (T3 T4 Datum DatumOrd Holds HoldAll EachIs)

instance (i j : Int) : Decidable (CMulW i j) := inferInstanceAs (Decidable (_ < _))
instance (i j : Int) : Decidable (CDivW i j) := inferInstanceAs (Decidable (_ ∧ _))
instance (i j : Int) : Decidable (CPow i j) := inferInstanceAs (Decidable (_ ∧ _ ∧ _))
theorem szl : sizeLine = 16777216 := sizeLine_eq
theorem lt_line {n : Nat} (h : n < 16777216) : n < sizeLine := by rw [szl]; exact h
theorem le_line {n : Nat} (h : n < 16777216) : n ≤ sizeLine := Nat.le_of_lt (lt_line h)
theorem len_line {vs : List V} (h : vs.length < 16777216 := by (show _ < 16777216); simp) : vs.length ≤ sizeLine := le_line h
theorem SqLF {K : PySem.W.Frag} {F H : Hp} {p : Addr} {vs : List V} (s : Same F H) (h : F p = some (.lst vs)) : SqL K H p vs := SqL.of (s _ _ h)
theorem SqTF {K : PySem.W.Frag} {F H : Hp} {p : Addr} {vs : List V} (s : Same F H) (h : F p = some (.tup vs)) : SqT K H p vs := SqT.of (s _ _ h)

/-! ### mirrors of what may go wrong -/
def setI {a : Type} (xs : List a) (i : Int) (y : a) : M (List a) := match ixN xs.length i with
  | some j => .ok (xs.set j y)
  | none => bad
def popI {a : Type} (xs : List a) (i : Int) : M (a × List a) := if xs.length < 16777216 then (match ixN xs.length i with
    | some j => (match xs[j]? with
      | some y => .ok (y, xs.eraseIdx j)
      | none => bad)
    | none => bad) else bad
def popL {a : Type} (xs : List a) : M (a × List a) := match xs[xs.length - 1]? with
  | some y => .ok (y, xs.dropLast)
  | none => bad
def appL {a : Type} (xs : List a) (y : a) : M (List a) := if xs.length < 16777216 then .ok (xs ++ [y]) else bad
def rangeL (lo hi : Int) : List Int := (List.range (hi - lo).toNat).map fun (i : Nat) => lo + (i : Int)
def okR (i : Int) : Prop := -1000000 ≤ i ∧ i ≤ 1000000
instance (i : Int) : Decidable (okR i) := inferInstanceAs (Decidable (_ ∧ _))
theorem okR.lo {i : Int} (h : okR i) : -(2 ^ 62) ≤ i := by obtain ⟨a, b⟩ := h; omega
theorem okR.hi {i : Int} (h : okR i) : i < 2 ^ 62 := by obtain ⟨a, b⟩ := h; omega
theorem rangeL_get {lo hi : Int} {i : Nat} (h : i < (hi - lo).toNat) : (rangeL lo hi).drop i = (lo + (i : Int)) :: (rangeL lo hi).drop (i + 1) := by
  unfold rangeL
  rw [List.drop_eq_getElem_cons (by simpa using h)]
  simp
theorem rangeL_end {lo hi : Int} : (rangeL lo hi).drop (hi - lo).toNat = [] := by
  rw [List.drop_eq_nil_iff]
  unfold rangeL
  simp
section
variable {a b : Type} {Q : a → Prop} {E : String → Prop} {H : Hp}
theorem wp_setI {xs : List b} {i : Int} {y : b} {k : List b → M a} (h : wp (setI xs i y >>= k) Q E) : ∃ j, ixN xs.length i = some j ∧ wp (k (xs.set j y)) Q E := by
  unfold setI at h
  cases e : ixN xs.length i with
  | none => rw [e] at h; exact h.elim
  | some j => rw [e] at h; exact ⟨j, rfl, h⟩
theorem wp_popI {xs : List b} {i : Int} {k : b × List b → M a} (h : wp (popI xs i >>= k) Q E) : ∃ j y, seqIndex? i xs.length = some j ∧ -(2 ^ 63) ≤ i ∧ i < 2 ^ 63 ∧ xs[j]? = some y ∧ wp (k (y, xs.eraseIdx j)) Q E := by
  unfold popI at h
  by_cases hl : xs.length < 16777216
  · rw [if_pos hl] at h
    cases e : ixN xs.length i with
    | none => rw [e] at h; exact h.elim
    | some j =>
      rw [e] at h
      have h : wp ((match xs[j]? with
        | some y => .ok (y, xs.eraseIdx j)
        | none => bad) >>= k) Q E := h
      cases e2 : xs[j]? with
      | none => rw [e2] at h; exact h.elim
      | some y =>
        rw [e2] at h
        obtain ⟨q1, q2, q3, q4⟩ := ixN_seq e
        exact ⟨j, y, q1, by omega, by omega, e2, h⟩
  · rw [if_neg hl] at h
    exact h.elim
theorem wp_popL {xs : List b} {k : b × List b → M a} (h : wp (popL xs >>= k) Q E) : ∃ y, xs[xs.length - 1]? = some y ∧ wp (k (y, xs.dropLast)) Q E := by
  unfold popL at h
  cases e : xs[xs.length - 1]? with
  | none => rw [e] at h; exact h.elim
  | some y => rw [e] at h; exact ⟨y, rfl, h⟩
theorem wp_appL {xs : List b} {y : b} {k : List b → M a} (h : wp (appL xs y >>= k) Q E) : xs.length < sizeLine ∧ wp (k (xs ++ [y])) Q E := by
  unfold appL at h
  by_cases hl : xs.length < 16777216
  · rw [if_pos hl] at h
    exact ⟨lt_line hl, h⟩
  · rw [if_neg hl] at h
    exact h.elim
end
/-! loops, by what is left to be done -/
section
variable {i s r a c : Type} {Q : a → Prop} {E : String → Prop}
theorem loopN_L {b : i → s → M s} {xs : List i} {x : s} {k : s → M a} (h : wp (loopN b xs x >>= k) Q E) :
    ∃ L : List i → s → Prop, L xs x ∧ (∀ y ys x, L (y :: ys) x → wp (b y x) (fun x' => L ys x') E) ∧ ∀ x, L [] x → wp (k x) Q E := by
  refine ⟨fun ys x => wp (loopN b ys x >>= k) Q E, h, fun y ys x hx => ?_, fun x hx => hx⟩
  have hx : wp (loopN b (y :: ys) x >>= k) Q E := hx
  rw [wp_bind] at hx
  have hx : wp (b y x >>= fun x' => loopN b ys x') (fun x => wp (k x) Q E) E := hx
  rw [wp_bind] at hx
  cases e : b y x with
  | ok z =>
    rw [e] at hx
    exact wp_bind.mpr hx
  | error e2 =>
    rw [e] at hx
    cases e2 <;> exact hx
theorem loopM_L {b : i → s → M (Fl s r)} {xs : List i} {x : s} {k : Fl s r → M a} (h : wp (loopM b xs x >>= k) Q E) :
    ∃ L : List i → s → Prop, L xs x ∧ (∀ y ys x, L (y :: ys) x → wp (b y x) (fun f => match f with
      | .nx x' => L ys x'
      | .rt z => wp (k (.rt z)) Q E) E) ∧ ∀ x, L [] x → wp (k (.nx x)) Q E := by
  refine ⟨fun ys x => wp (loopM b ys x >>= k) Q E, h, fun y ys x hx => ?_, fun x hx => hx⟩
  have hx : wp (loopM b (y :: ys) x >>= k) Q E := hx
  rw [wp_bind] at hx
  cases e : b y x with
  | ok z =>
    have hx : wp (b y x >>= fun f => match f with
      | .nx x' => loopM b ys x'
      | .rt z => .ok (.rt z)) (fun x => wp (k x) Q E) E := hx
    rw [e] at hx
    cases z with
    | nx z => exact wp_bind.mpr hx
    | rt z => exact hx
  | error e2 =>
    have hx : wp (b y x >>= fun f => match f with
      | .nx x' => loopM b ys x'
      | .rt z => .ok (.rt z)) (fun x => wp (k x) Q E) E := hx
    rw [e] at hx
    cases e2 <;> exact hx
theorem whileN_L {c : s → M Bool} {b : s → M s} {n : Nat} {x : s} {k : s → M a} (h : wp (whileN c b n x >>= k) Q E) :
    ∃ L : Nat → s → Prop, L n x ∧ ∀ m x, L m x → wp (c x) (fun t => if t = true then ∃ m', m' < m ∧ wp (b x) (fun x' => L m' x') E else wp (k x) Q E) E := by
  refine ⟨fun n x => wp (whileN c b n x >>= k) Q E, h, fun m x hx => ?_⟩
  cases m with
  | zero => exact hx.elim
  | succ m =>
    have hx : wp ((c x >>= fun t => if t = true then b x >>= fun x' => whileN c b m x' else .ok x) >>= k) Q E := hx
    rw [wp_bind, wp_bind] at hx
    cases e : c x with
    | error e2 => rw [e] at hx; cases e2 <;> exact hx
    | ok t =>
      rw [e] at hx
      cases t with
      | false => exact hx
      | true =>
        refine ⟨m, Nat.lt_succ_self m, ?_⟩
        have hx : wp (b x >>= fun x' => whileN c b m x') (fun x => wp (k x) Q E) E := hx
        rw [wp_bind] at hx
        cases e : b x with
        | error e2 => rw [e] at hx; cases e2 <;> exact hx
        | ok z =>
          rw [e] at hx
          exact wp_bind.mpr hx
theorem whileM_L {c : s → M Bool} {b : s → M (Fl s r)} {n : Nat} {x : s} {k : Fl s r → M a} (h : wp (whileM c b n x >>= k) Q E) :
    ∃ L : Nat → s → Prop, L n x ∧ ∀ m x, L m x → wp (c x) (fun t => if t = true then ∃ m', m' < m ∧ wp (b x) (fun f => match f with
      | .nx x' => L m' x'
      | .rt z => wp (k (.rt z)) Q E) E else wp (k (.nx x)) Q E) E := by
  refine ⟨fun n x => wp (whileM c b n x >>= k) Q E, h, fun m x hx => ?_⟩
  cases m with
  | zero => exact hx.elim
  | succ m =>
    have hx : wp ((c x >>= fun t => if t = true then b x >>= fun
      | .nx x' => whileM c b m x'
      | .rt z => .ok (.rt z)
    else .ok (.nx x)) >>= k) Q E := hx
    rw [wp_bind, wp_bind] at hx
    cases e : c x with
    | error e2 => rw [e] at hx; cases e2 <;> exact hx
    | ok t =>
      rw [e] at hx
      cases t with
      | false => exact hx
      | true =>
        refine ⟨m, Nat.lt_succ_self m, ?_⟩
        have hx : wp (b x >>= fun
          | .nx x' => whileM c b m x'
          | .rt z => .ok (.rt z)) (fun x => wp (k x) Q E) E := hx
        rw [wp_bind] at hx
        cases e : b x with
        | error e2 => rw [e] at hx; cases e2 <;> exact hx
        | ok z =>
          rw [e] at hx
          cases z with
          | nx z => exact wp_bind.mpr hx
          | rt z => exact hx
/-- a comprehension: what it has made so far, then the items left; no exception leaves it -/
def compX (b : i → s → M (Option c × s)) : List i → List c → s → M (List c × s)
  | [], acc, x => .ok (acc, x)
  | y :: ys, acc, x => nox (b y x) >>= fun p => compX b ys (match p.1 with
    | some z => acc ++ [z]
    | none => acc) p.2
/-- the list is short enough -/
def compS (b : i → s → M (Option c × s)) (xs : List i) (x : s) : M (List c × s) := chk (xs.length < 16777216) >>= fun _ => compX b xs [] x
theorem compX_L {b : i → s → M (Option c × s)} {k : List c × s → M a} : ∀ {xs : List i} {acc : List c} {x : s}, wp (compX b xs acc x >>= k) Q E →
    ∃ L : List i → List c → s → Prop, L xs acc x ∧ (∀ y ys acc x, L (y :: ys) acc x → wp (b y x) (fun p => L ys (match p.1 with
      | some z => acc ++ [z]
      | none => acc) p.2) (fun _ => False)) ∧ ∀ acc x, L [] acc x → wp (k (acc, x)) Q E := by
  intro xs acc x h
  refine ⟨fun ys acc x => wp (compX b ys acc x >>= k) Q E, h, fun y ys acc x hx => ?_, fun acc x hx => hx⟩
  have hx : wp ((nox (b y x) >>= fun p => compX b ys (match p.1 with
    | some z => acc ++ [z]
    | none => acc) p.2) >>= k) Q E := hx
  rw [wp_bind] at hx
  obtain ⟨p, e, hx⟩ := wp_nox hx
  rw [e]
  exact wp_bind.mpr hx
theorem compS_L {b : i → s → M (Option c × s)} {k : List c × s → M a} {xs : List i} {x : s} (h : wp (compS b xs x >>= k) Q E) : xs.length < 16777216 ∧
    ∃ L : List i → List c → s → Prop, L xs [] x ∧ (∀ y ys acc x, L (y :: ys) acc x → wp (b y x) (fun p => L ys (match p.1 with
      | some z => acc ++ [z]
      | none => acc) p.2) (fun _ => False)) ∧ ∀ acc x, L [] acc x → wp (k (acc, x)) Q E := by
  unfold compS at h
  rw [wp_bind] at h
  obtain ⟨h1, h2⟩ := wp_chk h
  exact ⟨h1, compX_L (wp_bind.mpr h2)⟩
end
theorem drop_at {a : Type} {xs : List a} {i : Nat} {x : a} (h : xs[i]? = some x) : xs.drop i = x :: xs.drop (i + 1) := by
  obtain ⟨h1, h2⟩ := List.getElem?_eq_some_iff.mp h
  rw [List.drop_eq_getElem_cons h1, h2]
theorem drop_end {a : Type} {xs : List a} {vs : List V} (h : vs.length = xs.length) : xs.drop vs.length = [] := by
  rw [h, List.drop_length]

/-! ### a def as it stands -/
structure Df (K : PySem.W.Frag) (mg : Str → Option Value) (x qual : Str) (st : Stmt) (ps : List Str) : Prop where
  ex : ∃ f fd, Fun K x qual st f fd ∧ mg x = some (.ref f) ∧ Binds K fd ps []
structure Ca (P : Program) (w : World) (K : PySem.W.Frag) (mg : Str → Option Value) (base : Heap) (x : Str) (k : Nat) (ps : List Str) (sp : Sp) : Prop where
  ex : ∃ f fd, FnOk P w K mg base (L2.CX P w) k f fd ps sp ∧ mg x = some (.ref f) ∧ PySem.W.keepIn K (.ref f) = true ∧ Binds K fd ps []
/-- an exception class of the program -/
structure Xc (K : PySem.W.Frag) (mg : Str → Option Value) (x : Str) (C : Addr) : Prop where
  g : mg x = some (.ref C)
  x : PySem.W.excIn K C [.type "ValueError", .type "Exception", .type "BaseException", .type "object"] "ValueError.__new__" = true
  k : PySem.W.keepIn K (.ref C) = true
  b : PySem.W.subIn K (.ref C) (.type "BaseException") = some true
  t : PySem.W.typeIn K (.ref C) = some (.type "type")
section
variable {P : Program} {w : World} {K : PySem.W.Frag} {mg : Str → Option Value} {base : Heap}
theorem Ca.mk' {x qual : Str} {st : Stmt} {N ps : List Str} {k : Nat} {sp : Sp} (D : Df K mg x qual st ps) (S : FnScope N ps (defScope st)) (len : ∀ vs H Q E, sp vs H Q E → vs.length = ps.length)
    (hbody : ∀ (qual' : Str) (f : Addr) (cdv : Value) (A : Around) (outer : List Env) (s : Shared) (H : Hp) (vs : List V) (Q : VK) (E : XK), Room k (A.deeper (envOfC qual (defScope st) s.heap.objs.size f cdv)) → sp vs H Q E →
      ∃ t, PSs (cxOf (L2.CX P w) P w K mg base N qual (defScope st) f cdv A outer s H E) (defBody st) t ∧ t { nx := fun _ H' => Q .non H', rt := Q } (start N vs) H) : Ca P w K mg base x (k + 1) ps sp := by
  obtain ⟨f, fd, F, m, b⟩ := D.ex
  exact ⟨f, fd, F.okX S len fun cdv A outer s H vs Q E hr h => hbody qual f cdv A outer s H vs Q E hr h, m, F.kp, b⟩
end
section
variable {X : Cx}
/-- len of a list or tuple -/
def rLenT : List V → Hp → VK → Prop := fun vs H Q => ∃ (l : Addr) (ws : List V) (n : Nat), vs = [.ref l] ∧ (H l = some (.lst ws) ∨ H l = some (.tup ws)) ∧ ws.length = n ∧ Q (.int n) H
theorem call_lenT : CallR X (.builtin "len") rLenT := by
  intro pins s σ H vs us Q I r h
  obtain ⟨l, ws, n, e, hl, rfl, k⟩ := h
  refine call_len_seq pins s σ H vs us Q I r ⟨l, ws, e, ?_, k⟩
  rcases hl with hl | hl
  · exact .inl (SqL.of hl)
  · exact .inr (SqT.of hl)
end

section
variable {Z : Ent} {F F' H H' : Hp} {cs : List (Addr × HO)} {p a : Addr} {o o' : HO}
theorem Ow.putE (O : Ow Z F cs H) (h : H p = none) (o : HO) : ∃ F', Ow Z F' cs (upd H p o) ∧ Same F F' ∧ F' p = some o := ⟨_, O.put h, O.putS h, upd_same⟩
theorem Ow.was (O : Ow Z F cs H) (h : H p = none) : Z.H p = none := by
  cases q : Z.H p with
  | none => rfl
  | some u => exact absurd h (O.g.t p (by rw [q]; simp))
theorem Ow.frzE (O : Ow Z F cs H) (i : Nat) (e : cs[i]? = some (a, o)) (hz : Z.H a = none) : ∃ F', Ow Z F' (cs.eraseIdx i) H ∧ Same F F' ∧ F' a = some o := ⟨_, O.frz i e hz, O.frzS i e, upd_same⟩
/-- a cell that a call made -/
theorem Ow.got (O : Ow Z F cs H) (O' : Ow Z F' cs' H') (hk : cs'.map (·.1) = cs.map (·.1)) (hn : H p = none) (hf : F' p = none) (h : H' p = some o) (ht : noTup o = true := by rfl) : Ow Z F' ((p, o) :: cs') H' :=
  O'.add O (fun c hc => by rw [← hk]; exact List.mem_map.mpr ⟨c, hc, rfl⟩) hn hf h ht
end
theorem rangeL_get0 {n : Int} {i : Nat} (h : i < n.toNat) : (rangeL 0 n).drop i = (0 + (i : Int)) :: (rangeL 0 n).drop (i + 1) := rangeL_get (by simpa using h)
theorem rangeL_end0 {n : Int} : (rangeL 0 n).drop n.toNat = [] := by
  have := rangeL_end (lo := 0) (hi := n)
  simpa using this
theorem iteD {c A B : Prop} [Decidable c] (h1 : c → A) (h2 : ¬ c → B) : if decide c = true then A else B := by
  by_cases h : c
  · rw [decide_eq_true h, if_pos rfl]; exact h1 h
  · rw [decide_eq_false h, if_neg Bool.false_ne_true]; exact h2 h
theorem iteN {c A B : Prop} [Decidable c] (h1 : c → B) (h2 : ¬ c → A) : if (!decide c) = true then A else B := by
  by_cases h : c
  · rw [decide_eq_true h]; exact h1 h
  · rw [decide_eq_false h]; exact h2 h
theorem iteB {b : Bool} {A B : Prop} (h1 : b = true → A) (h2 : ¬ b = true → B) : if b = true then A else B := by
  cases b with
  | true => exact h1 rfl
  | false => exact h2 Bool.false_ne_true
theorem iteBN {b : Bool} {A B : Prop} (h1 : b = true → B) (h2 : ¬ b = true → A) : if (!b) = true then A else B := by
  cases b with
  | true => exact h1 rfl
  | false => exact h2 Bool.false_ne_true
theorem iteNT {A B : Prop} (h : B) : if (!true) = true then A else B := h
theorem iteNF {A B : Prop} (h : A) : if (!false) = true then A else B := h
theorem wp_if {a : Type} {Q : a → Prop} {E : String → Prop} {c : Prop} [Decidable c] {x y : M a} (h : wp (if c then x else y) Q E) (hc : c) : wp x Q E := by
  rw [if_pos hc] at h
  exact h
theorem wp_el {a : Type} {Q : a → Prop} {E : String → Prop} {c : Prop} [Decidable c] {x y : M a} (h : wp (if c then x else y) Q E) (hc : ¬ c) : wp y Q E := by
  rw [if_neg hc] at h
  exact h

theorem hu128_of {A : Around} {k : Nat} (hr : Room k A) : A.units + 128 < cLine := by have := hr.un; omega
def cutL {a : Type} (xs : List a) (lo hi : Option Int) : List a := (xs.drop (HT.sIx xs.length 0 lo)).take (HT.sIx xs.length xs.length hi - HT.sIx xs.length 0 lo)
theorem RL.cutL {a : Type} [Py a] {H : Hp} {vs : List V} {xs : List a} (h : RL H vs xs) (lo hi : Option Int) : RL H (cutV vs lo hi) (PG.cutL xs lo hi) := h.cut lo hi
theorem RL.last {a : Type} [Py a] {H : Hp} {vs : List V} {xs : List a} {y : a} (h : RL H vs xs) (e : xs[xs.length - 1]? = some y) : ∃ w, vs[vs.length - 1]? = some w ∧ R H w y := by
  obtain ⟨w, e1, h1⟩ := h.get e
  exact ⟨w, by rw [h.len]; exact e1, h1⟩

theorem okR.rg1 {n : Int} (h : okR n) : RgOk 0 n := by
  obtain ⟨a, b⟩ := h
  exact ⟨by omega, by omega, by omega, by omega, by omega⟩
theorem rgV_eq (a b : Int) : rgV a b = (rangeL a b).map V.int := by
  unfold rgV rangeL
  rw [List.map_map]
  rfl
theorem RL.rg {H : Hp} {a b : Int} : RL H (rgV a b) (rangeL a b) := by
  rw [rgV_eq]
  exact RL.of_ints

theorem comp_len {b : Type} {w vs : List V} {xs : List b} {i : Nat} {x : V} (la : w.length ≤ i) (hi : vs[i]? = some x) (hl : vs.length = xs.length) (c : xs.length < 16777216) : w.length < sizeLine := by
  have := (List.getElem?_eq_some_iff.mp hi).1
  exact lt_line (by omega)
theorem rangeL_length (lo hi : Int) : (rangeL lo hi).length = (hi - lo).toNat := by
  unfold rangeL
  simp
theorem comp_lenR {w : List V} {lo hi : Int} {i n : Nat} (la : w.length ≤ i) (h : i < n) (e : (hi - lo).toNat = n) (c : (rangeL lo hi).length < 16777216) : w.length < sizeLine := by
  rw [rangeL_length] at c
  exact lt_line (by omega)
theorem tYes_ {σ : L2.St} {H : Hp} {Q : Bool → Hp → Prop} (h : Q true H) : tYes σ H Q := h

/-! lists of own lists of ints -/
abbrev LC := Addr × List Int
def lcell (c : LC) : Addr × HO := (c.1, .lst (c.2.map V.int))
theorem Ow.perm {Z : Ent} {F H : Hp} {cs cs' : List (Addr × HO)} (O : Ow Z F cs H) (h : cs.Perm cs') : Ow Z F cs' H where
  g := O.g
  cf := fun c hc => O.cf c (h.mem_iff.mpr hc)
  ch := fun c hc => O.ch c (h.mem_iff.mpr hc)
  nd := (h.map _).nodup_iff.mp O.nd
  ca := fun c hc => O.ca c (h.mem_iff.mpr hc)
  nt := fun c hc => O.nt c (h.mem_iff.mpr hc)
theorem Ow.sub {Z : Ent} {F H : Hp} {cs cs' : List (Addr × HO)} (O : Ow Z F cs H) (h : cs'.Sublist cs) : Ow Z F cs' H where
  g := O.g
  cf := fun c hc => O.cf c (h.subset hc)
  ch := fun c hc => O.ch c (h.subset hc)
  nd := O.nd.sublist (h.map _)
  ca := fun c hc => O.ca c (h.subset hc)
  nt := fun c hc => O.nt c (h.subset hc)
/-- a new list of new lists -/
structure OwnLL (H F' H' : Hp) (p : Addr) (ps : List LC) : Prop where
  pn : H p = none
  pf : F' p = none
  ph : H' p = some (.lst (ps.map fun c => V.ref c.1))
  qn : ∀ c ∈ ps, H c.1 = none
  qf : ∀ c ∈ ps, F' c.1 = none
  qh : ∀ c ∈ ps, H' c.1 = some (.lst (c.2.map V.int))
  nd : (p :: ps.map (·.1)).Nodup
theorem OwnLL.frz {F H F' H' : Hp} {p : Addr} {ps : List LC} {as : List Addr} (G : Gr as F H F' H') (L : OwnLL H F' H' p ps) :
    ∃ F2, Gr as F H F2 H' ∧ F2 p = none ∧ RL F2 (ps.map fun c => V.ref c.1) (ps.map (·.2)) := by
  refine ⟨fun b => if b ∈ ps.map (·.1) then H' b else F' b, ⟨fun b o e => ?_, fun b o e => ?_, G.k, G.t, fun b e => ?_, G.u⟩, ?_, ?_⟩
  · have h1 := G.f b o e
    by_cases hb : b ∈ ps.map (·.1)
    · obtain ⟨c, hc, rfl⟩ := List.mem_map.mp hb
      rw [L.qf c hc] at h1
      cases h1
    · show (if b ∈ ps.map (·.1) then H' b else F' b) = some o
      rw [if_neg hb]
      exact h1
  · have e : (if b ∈ ps.map (·.1) then H' b else F' b) = some o := e
    by_cases hb : b ∈ ps.map (·.1)
    · rw [if_pos hb] at e
      exact e
    · rw [if_neg hb] at e
      exact G.s b o e
  · show (if b ∈ ps.map (·.1) then H' b else F' b) = F b ∨ _
    have hb : b ∉ ps.map (·.1) := fun hb => by
      obtain ⟨c, hc, rfl⟩ := List.mem_map.mp hb
      exact e (L.qn c hc)
    rw [if_neg hb]
    exact G.n b e
  · show (if p ∈ ps.map (·.1) then H' p else F' p) = none
    rw [if_neg (List.nodup_cons.mp L.nd).1]
    exact L.pf
  · have all : ∀ l : List LC, (∀ c ∈ l, c ∈ ps) → RL (fun b => if b ∈ ps.map (·.1) then H' b else F' b) (l.map fun c => V.ref c.1) (l.map (·.2)) := by
      intro l
      induction l with
      | nil => intro _; exact RL.nil
      | cons c l ih =>
        intro h
        have hc := h c List.mem_cons_self
        refine RL.cons (R.lst (vs := c.2.map V.int) ?_ RL.of_ints) (ih fun d hd => h d (List.mem_cons_of_mem _ hd))
        show (if c.1 ∈ ps.map (·.1) then H' c.1 else F' c.1) = _
        rw [if_pos (List.mem_map.mpr ⟨c, hc, rfl⟩)]
        exact L.qh c hc
    exact all ps fun _ h => h
theorem FnOk.impC {P : Program} {w : World} {K : PySem.W.Frag} {mg : Str → Option Value} {base : Heap} {x : Str} {k : Nat} {ps : List Str} {sp sp' : Sp} (F : Ca P w K mg base x k ps sp) (h : ∀ vs H Q E, sp' vs H Q E → sp vs H Q E) : Ca P w K mg base x k ps sp' := by
  obtain ⟨f, fd, G, m, kp, b⟩ := F.ex
  exact ⟨f, fd, G.imp h, m, kp, b⟩
theorem wp_mono {a : Type} {Q Q' : a → Prop} {E : String → Prop} {m : M a} (h : wp m Q E) (f : ∀ r, Q r → Q' r) : wp m Q' E := wp_tail h (fun r _ q => f r q) fun _ e => e
/-- a scalar call that reads a cell: the cell is as it was, and nothing of the call is kept -/
theorem Ow.borrow {Z : Ent} {F F1 F' H H' : Hp} {cs : List (Addr × HO)} (O : Ow Z F cs H) (s1 : Same F F1) (g : Gr [] F1 H F' H') : Ow Z F cs H' where
  g := ⟨O.g.f, (s1.trans g.f).trans g.s, fun b o hb e => g.k b o (fun h => nomatch h) (O.g.k b o hb e), fun b e => g.t b (O.g.t b e), O.g.n, fun b xs e => by
    rcases g.u b xs e with z | z
    · refine .inl ?_
      cases q : Z.H b with
      | none => rfl
      | some u => exact absurd z (O.g.t b (by rw [q]; simp))
    · exact O.g.u b xs z⟩
  cf := O.cf
  ch := fun c hc => g.k _ _ (fun h => nomatch h) (O.ch c hc)
  nd := O.nd
  ca := O.ca
  nt := O.nt
theorem Ow.lend {Z : Ent} {F H : Hp} {cs : List (Addr × HO)} {a : Addr} {o : HO} (O : Ow Z F cs H) (i : Nat) (e : cs[i]? = some (a, o)) : ∃ F1, Same F F1 ∧ Pre F1 [] H ∧ F1 a = some o := by
  have m := List.mem_of_getElem? e
  refine ⟨upd F a o, Same.new (O.cf _ m), ⟨fun b u q => ?_, (fun _ h => nomatch h), (fun _ h => nomatch h), List.nodup_nil, fun _ h => nomatch h⟩, upd_same⟩
  by_cases hb : b = a
  · subst hb; rw [upd_same] at q; rw [← q]; exact O.ch _ m
  · rw [upd_ne hb] at q; exact O.s b u q

abbrev lrefs (ps : List LC) : List V := ps.map fun (c : LC) => V.ref c.1

def ret {a : Type} (x : a) : M a := .ok x
theorem wp_ret {a b : Type} {Q : a → Prop} {E : String → Prop} {x : b} {k : b → M a} (h : wp (ret x >>= k) Q E) : ∃ y, y = x ∧ wp (k y) Q E := ⟨x, rfl, h⟩

/-- tuples that stand may be read -/
theorem Ow.tups {Z : Ent} {F H : Hp} {cs : List (Addr × HO)} (O : Ow Z F cs H) (bs : List Addr) (h : ∀ b ∈ bs, ∃ xs, H b = some (.tup xs)) : ∃ F', Ow Z F' cs H ∧ Same F F' ∧ ∀ b ∈ bs, F' b = H b := by
  refine ⟨fun b => if b ∈ bs then H b else F b, ⟨⟨fun b o e => ?_, fun b o e => ?_, O.g.k, O.g.t, fun b e => ?_, O.g.u⟩, fun c hc => ?_, O.ch, O.nd, O.ca, O.nt⟩, fun b o e => ?_, fun b hb => if_pos hb⟩
  · have h1 := O.g.f b o e
    show (if b ∈ bs then H b else F b) = some o
    by_cases hb : b ∈ bs
    · rw [if_pos hb]; exact O.s b o h1
    · rw [if_neg hb]; exact h1
  · have e : (if b ∈ bs then H b else F b) = some o := e
    by_cases hb : b ∈ bs
    · rw [if_pos hb] at e; exact e
    · rw [if_neg hb] at e; exact O.s b o e
  · show (if b ∈ bs then H b else F b) = Z.F b ∨ _
    by_cases hb : b ∈ bs
    · obtain ⟨xs, hx⟩ := h b hb
      rcases O.g.u b xs hx with z | z
      · exact absurd z e
      · exact .inr ⟨xs, z⟩
    · rw [if_neg hb]; exact O.g.n b e
  · show (if c.1 ∈ bs then H c.1 else F c.1) = none
    by_cases hb : c.1 ∈ bs
    · obtain ⟨xs, hx⟩ := h c.1 hb
      have hn := O.nt c hc
      rw [O.ch c hc] at hx
      rw [Option.some.inj hx] at hn
      cases hn
    · rw [if_neg hb]; exact O.cf c hc
  · show (if b ∈ bs then H b else F b) = some o
    by_cases hb : b ∈ bs
    · rw [if_pos hb]; exact O.s b o e
    · rw [if_neg hb]; exact e
end PG

set_option Elab.async false
set_option linter.all false
set_option maxRecDepth 100000
set_option maxHeartbeats 4000000
namespace PG
open PySem PySem.Spec PyProof.Rows L2
open PySem.W (T3 T4 Datum DatumOrd Holds HoldAll EachIs)

theorem u1_of {n : Nat} (h : n + 64 < cLine) : n + 1 < cLine := Nat.lt_of_le_of_lt (Nat.add_le_add_left (by decide) _) h
/-! ### dicts: what stands for a key -/
class DK (κ : Type) (K' : outParam Type) where
  kk : κ → K'
  inj : ∀ a b, kk a = kk b → a = b
instance : DK Int Key := ⟨Sum.inl, fun _ _ h => Sum.inl.inj h⟩
instance : DK Str Key := ⟨Sum.inr, fun _ _ h => Sum.inr.inj h⟩
instance : DK (Int × Int) (List Key) := ⟨fun p => [.inl p.1, .inl p.2], fun a b h => by
  injection h with h1 h2
  injection h2 with h2 _
  exact Prod.ext (Sum.inl.inj h1) (Sum.inl.inj h2)⟩
section
variable {κ K' β : Type} [DK κ K'] [Py β]
inductive RD (F : Hp) : List (K' × V) → List (κ × β) → Prop
  | nil : RD F [] []
  | cons {k : κ} {v : V} {y : β} {kvs : List (K' × V)} {xs : List (κ × β)} : R F v y → RD F kvs xs → RD F ((DK.kk k, v) :: kvs) ((k, y) :: xs)
variable {F F' : Hp}
theorem RD.mono {kvs : List (K' × V)} {xs : List (κ × β)} (h : RD F kvs xs) (s : Same F F') : RD F' kvs xs := by
  induction h with
  | nil => exact .nil
  | cons h _ ih => exact .cons (h.mono s) ih
theorem RD.len {kvs : List (K' × V)} {xs : List (κ × β)} (h : RD F kvs xs) : kvs.length = xs.length := by
  induction h with
  | nil => rfl
  | cons h _ ih => rw [List.length_cons, List.length_cons, ih]
theorem RD.keys {kvs : List (K' × V)} {xs : List (κ × β)} (h : RD F kvs xs) : kvs.map (·.1) = (xs.map (·.1)).map DK.kk := by
  induction h with
  | nil => rfl
  | cons h _ ih => rw [List.map_cons, List.map_cons, List.map_cons, ih]
end
section
variable {κ K' β : Type} [DK κ K'] [DecidableEq κ] [DecidableEq K'] [Py β] {F F' : Hp}
def dGet (xs : List (κ × β)) (k : κ) : Option β := (xs.find? fun p => decide (p.1 = k)).map (·.2)
def dPut (xs : List (κ × β)) (k : κ) (y : β) : List (κ × β) :=
  if (xs.any fun p => decide (p.1 = k)) = true then xs.map (fun p => if p.1 = k then (p.1, y) else p) else xs ++ [(k, y)]
def dHas (xs : List (κ × β)) (k : κ) : Bool := (dGet xs k).isSome
theorem kk_dec {a b : κ} : decide ((DK.kk a : K') = DK.kk b) = decide (a = b) := by
  by_cases h : a = b
  · subst h; simp
  · rw [decide_eq_false h, decide_eq_false fun z => h (DK.inj a b z)]
theorem dGet_pos {p : κ × β} {r : List (κ × β)} {k : κ} (e : p.1 = k) : dGet (p :: r) k = some p.2 := by simp [dGet, List.find?_cons, e]
theorem dGet_neg {p : κ × β} {r : List (κ × β)} {k : κ} (e : ¬ p.1 = k) : dGet (p :: r) k = dGet r k := by simp [dGet, List.find?_cons, e]
theorem RD.get {kvs : List (K' × V)} {xs : List (κ × β)} (h : RD F kvs xs) (k : κ) :
    (dGet xs k = none ∧ valV kvs (DK.kk k) = none) ∨ ∃ y v, dGet xs k = some y ∧ valV kvs (DK.kk k) = some v ∧ R F v y := by
  induction h with
  | nil => exact .inl ⟨rfl, rfl⟩
  | @cons j v y kvs xs h hs ih =>
    by_cases e : j = k
    · exact .inr ⟨y, v, dGet_pos e, valV_pos (by rw [e]), h⟩
    · rw [dGet_neg (p := (j, y)) e, valV_neg (fun z => e (DK.inj j k z))]
      exact ih
theorem RD.some {kvs : List (K' × V)} {xs : List (κ × β)} (h : RD F kvs xs) {k : κ} {y : β} (e : dGet xs k = some y) : ∃ v, valV kvs (DK.kk k) = some v ∧ R F v y := by
  rcases h.get k with ⟨a, _⟩ | ⟨y', v, a, b, c⟩
  · rw [e] at a; cases a
  · rw [e] at a; cases a; exact ⟨v, b, c⟩
theorem RD.is {kvs : List (K' × V)} {xs : List (κ × β)} (h : RD F kvs xs) (k : κ) : (valV kvs (DK.kk k)).isSome = dHas xs k := by
  unfold dHas
  rcases h.get k with ⟨a, b⟩ | ⟨y', v, a, b, c⟩
  · rw [a, b]; rfl
  · rw [a, b]; rfl
theorem RD.map {kvs : List (K' × V)} {xs : List (κ × β)} (h : RD F kvs xs) (k : κ) {v : V} {y : β} (hv : R F v y) :
    RD F (kvs.map fun kv => if kv.1 = DK.kk k then (kv.1, v) else kv) (xs.map fun p => if p.1 = k then (p.1, y) else p) := by
  induction h with
  | nil => exact .nil
  | @cons j u z kvs xs h hs ih =>
    rw [List.map_cons, List.map_cons]
    by_cases e : j = k
    · rw [if_pos e, if_pos (show (DK.kk j, u).1 = DK.kk k by rw [e])]
      exact .cons hv ih
    · rw [if_neg e, if_neg (show ¬ (DK.kk j, u).1 = DK.kk k from fun z => e (DK.inj j k z))]
      exact .cons h ih
theorem RD.snoc {kvs : List (K' × V)} {xs : List (κ × β)} (h : RD F kvs xs) (k : κ) {v : V} {y : β} (hv : R F v y) : RD F (kvs ++ [(DK.kk k, v)]) (xs ++ [(k, y)]) := by
  induction h with
  | nil => exact .cons hv .nil
  | cons h _ ih => exact .cons h ih
theorem RD.any {kvs : List (K' × V)} {xs : List (κ × β)} (h : RD F kvs xs) (k : κ) : (kvs.any fun kv => decide (kv.1 = DK.kk k)) = (xs.any fun p => decide (p.1 = k)) := by
  induction h with
  | nil => rfl
  | @cons j u z kvs xs h hs ih => rw [List.any_cons, List.any_cons, ih, kk_dec]
theorem RD.put {kvs : List (K' × V)} {xs : List (κ × β)} (h : RD F kvs xs) (k : κ) {v : V} {y : β} (hv : R F v y) : RD F (putK kvs (DK.kk k) v) (dPut xs k y) := by
  unfold putK dPut
  rw [h.any k]
  by_cases e : (xs.any fun p => decide (p.1 = k)) = true
  · rw [if_pos e, if_pos e]; exact h.map k hv
  · rw [if_neg e, if_neg e]; exact h.snoc k hv
def putD (xs : List (κ × β)) (k : κ) (y : β) : M (List (κ × β)) := if xs.length < 16777216 then .ok (dPut xs k y) else bad
theorem wp_putD {a : Type} {Q : a → Prop} {E : String → Prop} {xs : List (κ × β)} {j : κ} {y : β} {k : List (κ × β) → M a} (h : wp (putD xs j y >>= k) Q E) : xs.length < sizeLine ∧ wp (k (dPut xs j y)) Q E := by
  unfold putD at h
  by_cases hl : xs.length < 16777216
  · rw [if_pos hl] at h
    exact ⟨lt_line hl, h⟩
  · rw [if_neg hl] at h
    exact h.elim
end
/-- a dict that is read alone -/
class DO (K' : Type) where
  ho : List (K' × V) → HO
instance : DO Key := ⟨.dK⟩
instance : DO (List Key) := ⟨.dT⟩
section
variable {κ K' β : Type} [DK κ K'] [Py β] [DO K'] {F F' H : Hp} {v : V} {a b : Addr}
def RDv (F : Hp) (v : V) (xs : List (κ × β)) : Prop := ∃ (a : Addr) (kvs : List (K' × V)), v = .ref a ∧ F a = some (DO.ho kvs) ∧ RD F kvs xs
theorem RDv.mono {xs : List (κ × β)} (h : RDv F v xs) (s : Same F F') : RDv F' v xs := by
  obtain ⟨a, kvs, e, h1, h2⟩ := h
  exact ⟨a, kvs, e, s _ _ h1, h2.mono s⟩
theorem RDv.mk {xs : List (κ × β)} {kvs : List (K' × V)} (h : F a = some (DO.ho kvs)) (hr : RD F kvs xs) : RDv F (.ref a) xs := ⟨a, kvs, rfl, h, hr⟩
end
section
variable {β : Type} [Py β] {F H : Hp} {a b : Addr}
theorem dget_T {kvs : List (List Key × V)} {i j : Int} {v : V} (e : H a = some (.dT kvs)) (eb : H b = some (.tup [.int i, .int j])) (hv : valV kvs (DK.kk (i, j)) = some v) : DGet H a (.ref b) (some v) := by
  rw [← hv]
  exact DGet.t (k := [.inl i, .inl j]) e eb
theorem dget_I {kvs : List (Key × V)} {i : Int} {v : V} (e : H a = some (.dK kvs)) (hv : valV kvs (DK.kk i) = some v) : DGet H a (.int i) (some v) := by
  rw [← hv]
  exact DGet.k (k := .inl i) e
theorem dget_S {kvs : List (Key × V)} {i : Str} {v : V} (e : H a = some (.dK kvs)) (hv : valV kvs (DK.kk i) = some v) : DGet H a (.str i) (some v) := by
  rw [← hv]
  exact DGet.k (k := .inr i) e
theorem din_T {kvs : List (List Key × V)} {i j : Int} {xs : List ((Int × Int) × β)} (e : H a = some (.dT kvs)) (eb : H b = some (.tup [.int i, .int j])) (hr : RD F kvs xs) : ∃ o, DGet H a (.ref b) o ∧ o.isSome = dHas xs (i, j) :=
  ⟨_, DGet.t (k := [.inl i, .inl j]) e eb, hr.is (i, j)⟩
theorem din_I {kvs : List (Key × V)} {i : Int} {xs : List (Int × β)} (e : H a = some (.dK kvs)) (hr : RD F kvs xs) : ∃ o, DGet H a (.int i) o ∧ o.isSome = dHas xs i :=
  ⟨_, DGet.k (k := .inl i) e, hr.is i⟩
theorem din_S {kvs : List (Key × V)} {i : Str} {xs : List (Str × β)} (e : H a = some (.dK kvs)) (hr : RD F kvs xs) : ∃ o, DGet H a (.str i) o ∧ o.isSome = dHas xs i :=
  ⟨_, DGet.k (k := .inr i) e, hr.is i⟩
theorem dput_T {kvs : List (List Key × V)} {i j : Int} {v : V} (e : H a = some (.dT kvs)) (eb : H b = some (.tup [.int i, .int j])) (hl : kvs.length < sizeLine) : DPut H a (.ref b) v (upd H a (.dT (putK kvs (DK.kk (i, j)) v))) := DPut.t (k := [.inl i, .inl j]) e eb hl
theorem dput_I {kvs : List (Key × V)} {i : Int} {v : V} (e : H a = some (.dK kvs)) (hl : kvs.length < sizeLine) : DPut H a (.int i) v (upd H a (.dK (putK kvs (DK.kk i) v))) := DPut.k (k := .inl i) e hl
theorem dput_S {kvs : List (Key × V)} {i : Str} {v : V} (e : H a = some (.dK kvs)) (hl : kvs.length < sizeLine) : DPut H a (.str i) v (upd H a (.dK (putK kvs (DK.kk i) v))) := DPut.k (k := .inr i) e hl
end
/-! sorted(d), the keys pairs of whole numbers -/
theorem keys_tups {H : Hp} {kvs : List (List Key × V)} {bs : List Addr} (h : IsKeys H kvs bs) : ∀ b ∈ bs, ∃ xs, H b = some (.tup xs) := by
  unfold IsKeys at h
  induction h with
  | nil => intro b hb; simp at hb
  | cons h t ih =>
    intro c hc
    rcases List.mem_cons.mp hc with rfl | hc
    · exact ⟨_, h⟩
    · exact ih c hc
theorem keys_rl {H : Hp} {kvs : List (List Key × V)} {bs : List Addr} (h : IsKeys H kvs bs) : ∀ {ks : List (Int × Int)}, kvs.map (·.1) = ks.map DK.kk → RL H (bs.map V.ref) ks := by
  unfold IsKeys at h
  induction h with
  | nil =>
    intro ks e
    cases ks with
    | nil => exact RL.nil
    | cons k ks => simp at e
  | cons h t ih =>
    intro ks e
    cases ks with
    | nil => simp at e
    | cons k ks =>
      rw [List.map_cons, List.map_cons] at e
      injection e with e1 e2
      rw [e1] at h
      exact RL.cons (R.t2 h R.int R.int) (ih e2)
theorem keys_in {H F : Hp} {kvs : List (List Key × V)} {bs : List Addr} {ks : List (Int × Int)} (h : IsKeys H kvs bs) (hf : ∀ b ∈ bs, F b = H b) (e : kvs.map (·.1) = ks.map DK.kk) : RL F (bs.map V.ref) ks := by
  refine keys_rl ?_ e
  unfold IsKeys at h ⊢
  clear e
  induction h with
  | nil => exact .nil
  | @cons x b xs bs h t ih =>
    refine .cons ?_ (ih fun c hc => hf c (List.mem_cons_of_mem _ hc))
    rw [hf b List.mem_cons_self]
    exact h
section
variable {X : Cx}
theorem cr_sortedDT (hcalm : X.calm = true) (hu : X.A.units + 128 < cLine) : CallR X (.builtin "sorted") (fun xs H Q => ∃ (d : Addr) (kvs : List (List Key × V)) (ks : List (Int × Int)), xs = [.ref d] ∧ H d = some (.dT kvs) ∧ kvs.map (·.1) = ks.map DK.kk ∧
    ∀ (bs : List Addr) (p : Addr), IsKeys H kvs bs → H p = none → Q (.ref p) (upd H p (.lst (sortV (bs.map V.ref) ks)))) := by
  intro pins s σ H xs us Q I r q
  obtain ⟨d, kvs, ks', ex, hd, hks, q⟩ := q
  subst ex
  obtain ⟨u, eu, rx⟩ := vals1 r
  subst eu
  cases rx
  obtain ⟨z, hs, ks, pr, o, es, ep, ho, hx, hdt, he, hn⟩ := (show ObjOk X.prog X.w H s.heap d (.dT kvs) from I.hok d _ hd)
  have l1 : es.size = ks.length := size_of_entries he
  have l2 : kvs.length = ks.length := Paired.length pr
  refine Calls.call_function_entry PyProof.Rows.kind_sorted PyProof.Rows.plain_sorted PyProof.Rows.entry_sorted (PyProof.Rows.args_sorted1 _) ?_
  unfold Builtin.«sorted»
  refine wpAny_bind (m := checkCount "sorted" 1 1 _) (wpAny_pure ?_)
  refine wpAny_bind (PySem.W.kdu_collect (A := X.A.in1) (kdl_raw hs hx hdt) (I.ok.hd hcalm) ho (by omega) fun h' tk acc kp it => ?_)
  have ea : acc.toList = ks.map fun x => Value.ref x.2.1 := by
    have hl : acc.toList.length = ks.length := by rw [Array.length_toList, it.1]; exact l1
    apply List.ext_getElem?
    intro j
    rw [List.getElem?_map]
    cases hj : acc.toList[j]? with
    | none =>
      have h1 := List.getElem?_eq_none_iff.mp hj
      rw [List.getElem?_eq_none (by omega)]
      all_goals rfl
    | some v =>
      obtain ⟨en, hen, hv⟩ := it.2 j v (by rw [← Array.getElem?_toList]; exact hj)
      have qe := entry_at he j
      rw [hen] at qe
      cases hb : ks[j]? with
      | none =>
        rw [hb] at qe
        exact nomatch (show some en = none from qe)
      | some b =>
        rw [hb] at qe
        have e2 : en = entryOfKey (tupleKind (mixKind X.prog X.w)) b := Option.some.inj qe
        rw [hv, e2]
        all_goals rfl
  have eb : acc.toList = (ks.map fun (x : List Key × Addr × Value) => x.2.1).map Value.ref := by rw [ea, List.map_map]; all_goals rfl
  have rv : Vals ((ks.map fun (x : List Key × Addr × Value) => x.2.1).map V.ref) acc.toList := by rw [eb]; exact vals_refs _
  have hik : IsKeys H kvs (ks.map fun (x : List Key × Addr × Value) => x.2.1) := isKeys_of pr
  have hrl := keys_rl hik hks
  have hlen : ((ks.map fun (x : List Key × Addr × Value) => x.2.1).map V.ref).length = ks'.length := hrl.len
  have hal : acc.toList.length = ks.length := by rw [ea, List.length_map]
  have I1 : Inv X pins σ H { s with heap := h', toks := tk } := I.kept kp
  have hE := each_pairs hrl rv
  have hR : EachIs (fun u (p : V × (Int × Int)) => ∃ as, PySem.Reads h' u (Datum.toD p.2) as) acc.toList (((ks.map fun (x : List Key × Addr × Value) => x.2.1).map V.ref).zip ks') := each_imp (fun u p hp => hp.2.holds I1 hp.1) hE
  have hoL : (h'.push (seqObj "list" acc.toList.toArray 0)).get? h'.objs.size = some (seqObj "list" acc.toList.toArray 0) := Heap.get?_push_size _ rfl
  have hz : acc.toList.length ≤ sizeLine := by rw [hal]; omega
  refine wpAny_bind (wpAny_newList ?_ hz)
  show wpAny _ _ _ _ _ { s with heap := h'.push (seqObj "list" acc.toList.toArray 0), toks := tk }
  have er' : EachIs (fun v (p : V × (Int × Int)) => ∃ as, PySem.Reads (PySem.W.sortingHeap (h'.push (seqObj "list" acc.toList.toArray 0)) h'.objs.size acc.toList) v (Datum.toD p.2) as) acc.toList (((ks.map fun (x : List Key × Addr × Value) => x.2.1).map V.ref).zip ks') :=
    hR.mono fun _ _ ⟨as, r⟩ => ⟨as, PyProof.Rows.Reads.keeps (fun b o e => PySem.W.sortingHeap_old (Nat.ne_of_lt (Heap.lt_size e)) (Heap.get?_push_of_some _ e)) r⟩
  have hal2 : PySem.W.AllAlike ((((ks.map fun (x : List Key × Addr × Value) => x.2.1).map V.ref).zip ks').map fun p => Datum.toD p.2) := PySem.W.AllAlike.of fun p q => DatumOrd.alike p.2 q.2
  refine wpAny_bind (wpAny_holding (wpAny_call_entry PyProof.Rows.slot_list_sort ⟨_, hoL, rfl⟩ PyProof.Rows.entry_list_sort
    (PySem.W.list_sort_vals (κ := PySem.W.dataKind (PySem.W.sortingHeap (h'.push (seqObj "list" acc.toList.toArray 0)) h'.objs.size acc.toList) ((((ks.map fun (x : List Key × Addr × Value) => x.2.1).map V.ref).zip ks').map fun p => Datum.toD p.2)) (s := { s with heap := h'.push (seqObj "list" acc.toList.toArray 0), toks := tk }) hoL
      (PySem.W.SortsAt.data (s := { s with heap := PySem.W.sortingHeap (h'.push (seqObj "list" acc.toList.toArray 0)) h'.objs.size acc.toList, toks := tk }) (PySem.W.each_map (R := fun v d => ∃ as, PySem.Reads (PySem.W.sortingHeap (h'.push (seqObj "list" acc.toList.toArray 0)) h'.objs.size acc.toList) v d as) (fun (p : V × (Int × Int)) => Datum.toD p.2) er') hal2 ?_ ?_) hz ⟨_, rfl, ?_⟩)
    (PyProof.Rows.args_list_sort _)))
  · exact PySem.W.Sortable.tuples fun p => ⟨_, _, rfl⟩
  · intro dd hdd
    obtain ⟨p, _, rfl⟩ := List.mem_map.mp hdd
    have hdp : Datum.depth (Int × Int) ≤ 100 := by decide
    have := Datum.depth_le p.2
    have hA : X.A.in1.in1.units ≤ X.A.units + 2 := by simp [Around.in1]
    omega
  · have he2 := PySem.W.sortVals_data (R := fun (u : Value) (p : V × (Int × Int)) => RelV p.1 u ∧ R H p.1 p.2) (enc := fun p => Datum.toD p.2) false hE er' hal2
    rw [dataLe_T (fun p : V × (Int × Int) => p.2)] at he2
    obtain ⟨q1, q2⟩ := pairs_vals he2
    obtain ⟨e', he'⟩ := PyProof.Rows.sortedHeap_at (vs := acc.toList) (out := (PySem.W.sortVals (PySem.W.dataKind (PySem.W.sortingHeap (h'.push (seqObj "list" acc.toList.toArray 0)) h'.objs.size acc.toList) ((((ks.map fun (x : List Key × Addr × Value) => x.2.1).map V.ref).zip ks').map fun p => Datum.toD p.2)) false acc.toList acc.toList).toArray) hoL
    refine wpAny_pure ⟨_, rfl, .ref h'.objs.size, upd H h'.objs.size (.lst (sortV ((ks.map fun (x : List Key × Addr × Value) => x.2.1).map V.ref) ks')), I1.laid (t' := tk) (fun b u e => ?_) (Nat.le_refl _)
      (show ObjOk X.prog X.w _ _ _ (.lst _) from ⟨?_, _, e', q1, he'⟩), rfl, q _ _ hik (I1.hok.fresh (Nat.le_refl _))⟩
    · have hb : b < h'.objs.size := Heap.lt_size e
      rw [PyProof.Rows.sortedHeap_old (Nat.ne_of_lt hb) (by rw [size_push']; exact Nat.lt_succ_of_lt hb)]
      exact Heap.get?_push_of_some _ e
    · unfold sortV
      rw [List.length_map, List.length_mergeSort, List.length_zip, hlen, Nat.min_self, ← hlen, List.length_map, List.length_map]
      omega
end
end PG

set_option Elab.async false
set_option linter.all false
set_option maxRecDepth 100000
set_option maxHeartbeats 4000000
namespace PG
open PySem PySem.Spec PyProof.Rows L2
open PySem.W (T3 T4 Datum DatumOrd Holds HoldAll EachIs)

/-! ### a list of two things of two kinds -/
structure HL2 (a b : Type) where
  a : a
  b : b
  deriving DecidableEq
theorem HL2.same {a b : Type} : ∀ {p q : HL2 a b}, p.a = q.a → p.b = q.b → p = q
  | ⟨_, _⟩, ⟨_, _⟩, rfl, rfl => rfl
section
variable {α β : Type} [DecidableEq α] [Datum α] [DecidableEq β] [Datum β]
instance : Datum (HL2 α β) where
  toD p := .list [Datum.toD p.a, Datum.toD p.b]
  plain p := by simp only [PyData.plain, PyData.plainAll, Datum.plain, Bool.and_self]
  eqv p q := by
    simp only [PyData.eqv, PyData.eqvAll]
    rw [Datum.eqv, Datum.eqv, Bool.and_true, ← Bool.decide_and]
    exact decide_eq_decide.mpr ⟨fun e => HL2.same e.1 e.2, fun e => by rw [e]; exact ⟨rfl, rfl⟩⟩
  depth := max (Datum.depth α) (Datum.depth β) + 1
  depth_le p := by
    simp only [PyData.depth, PyData.depthAll]
    have h0 := Datum.depth_le p.a
    have h1 := Datum.depth_le p.b
    omega
end
instance {a b : Type} [Py a] [Py b] : Py (HL2 a b) := ⟨fun p => .list [Py.toD p.a, Py.toD p.b]⟩
section
variable {a b : Type} [Py a] [DecidableEq a] [Datum a] [IsD a] [Py b] [DecidableEq b] [Datum b] [IsD b]
instance : IsD (HL2 a b) := ⟨fun p => by show PyData.list [_, _] = PyData.list [_, _]; rw [IsD.eq, IsD.eq]⟩
end
theorem R.hl2 {a b : Type} [Py a] [Py b] {H : Hp} {p : Addr} {x : HL2 a b} {v1 v2 : V} (ha : H p = some (.lst [v1, v2])) (h1 : R H v1 x.a) (h2 : R H v2 x.b) : R H (.ref p) x := Rep.lst ha (.cons h1 (.cons h2 .nil))
/-! ### data without lists within -/
class NoL (a : Type) [Py a] : Prop where
  mv : ∀ (F F' : Hp), (∀ b xs, F b = some (.tup xs) → F' b = some (.tup xs)) → ∀ (v : V) (x : a), R F v x → R F' v x
instance : NoL Int := ⟨fun _ _ _ _ _ h => by rw [R.int_ h]; exact R.int⟩
instance : NoL Bool := ⟨fun _ _ _ _ _ h => by rw [R.bl_ h]; exact R.bl⟩
instance : NoL Str := ⟨fun _ _ _ _ _ h => by rw [R.str_ h]; exact R.str⟩
instance {a b : Type} [Py a] [Py b] [NoL a] [NoL b] : NoL (a × b) := ⟨fun _ _ t _ _ h => by
  obtain ⟨p, v1, v2, rfl, hp, h1, h2⟩ := R.t2_ h
  exact R.t2 (t _ _ hp) (NoL.mv _ _ t _ _ h1) (NoL.mv _ _ t _ _ h2)⟩
instance {a b c : Type} [Py a] [Py b] [Py c] [NoL a] [NoL b] [NoL c] : NoL (T3 a b c) := ⟨fun _ _ t _ _ h => by
  obtain ⟨p, v1, v2, v3, rfl, hp, h1, h2, h3⟩ := R.t3_ h
  exact R.t3 (t _ _ hp) (NoL.mv _ _ t _ _ h1) (NoL.mv _ _ t _ _ h2) (NoL.mv _ _ t _ _ h3)⟩
theorem RL.mv {a : Type} [Py a] [NoL a] {F F' : Hp} (t : ∀ b xs, F b = some (.tup xs) → F' b = some (.tup xs)) : ∀ {vs : List V} {xs : List a}, RL F vs xs → RL F' vs xs
  | _, [], h => by rw [RL.nil_ h]; exact RL.nil
  | _, x :: xs, h => by
    obtain ⟨w, ws, rfl, h1, h2⟩ := RL.cons_ h
    exact RL.cons (NoL.mv _ _ t _ _ h1) (RL.mv t h2)
/-! ### cells lent to a call -/
open Classical in
noncomputable def lendF (as : List Addr) (F H : Hp) : Hp := fun b => if b ∈ as then H b else F b
open Classical in
noncomputable def backF (as : List Addr) (F : Hp) : Hp := fun b => if b ∈ as then none else F b
section
variable {Z : Ent} {F F' H H' : Hp} {cs : List (Addr × HO)} {p a q : Addr} {o o' : HO} {as : List Addr}
theorem inA_nil : ∀ b ∈ ([] : List Addr), ∃ o, (b, o) ∈ cs := fun _ h => nomatch h
theorem inA_cons (i : Nat) (e : cs[i]? = some (a, o)) (h : ∀ b ∈ as, ∃ o, (b, o) ∈ cs) : ∀ b ∈ a :: as, ∃ o, (b, o) ∈ cs := fun b hb => by
  rcases List.mem_cons.mp hb with rfl | hb
  · exact ⟨o, List.mem_of_getElem? e⟩
  · exact h b hb
theorem lendF_at (h : a ∈ as) : lendF as F H a = H a := if_pos h
theorem Ow.lendS (O : Ow Z F cs H) (hin : ∀ b ∈ as, ∃ o, (b, o) ∈ cs) : Same F (lendF as F H) := fun b u e => by
  by_cases hb : b ∈ as
  · obtain ⟨o, hc⟩ := hin b hb
    have := O.cf _ hc
    have e' : F b = none := this
    rw [e'] at e; cases e
  · show (if b ∈ as then H b else F b) = _
    rw [if_neg hb]; exact e
theorem Ow.lendP (O : Ow Z F cs H) (hin : ∀ b ∈ as, ∃ o, (b, o) ∈ cs) : Pre (lendF as F H) [] H := by
  refine ⟨fun b u e => ?_, (fun _ h => nomatch h), (fun _ h => nomatch h), List.nodup_nil, fun _ h => nomatch h⟩
  have e : (if b ∈ as then H b else F b) = some u := e
  by_cases hb : b ∈ as
  · rw [if_pos hb] at e; exact e
  · rw [if_neg hb] at e; exact O.s b u e
theorem Ow.unlend (O : Ow Z F cs H) (hin : ∀ b ∈ as, ∃ o, (b, o) ∈ cs) (g : Gr [] (lendF as F H) H F' H') :
    Ow Z (backF as F') cs H' ∧ Same F (backF as F') ∧ (∀ b xs, F' b = some (.tup xs) → backF as F' b = some (.tup xs)) ∧ ∀ b, F' b = none → backF as F' b = none := by
  have inF : ∀ b, b ∉ as → ∀ u, F b = some u → F' b = some u := fun b hb u e => g.f b u (by
    show (if b ∈ as then H b else F b) = _
    rw [if_neg hb]; exact e)
  have nF : ∀ b ∈ as, F b = none := fun b hb => by obtain ⟨o, hc⟩ := hin b hb; exact O.cf _ hc
  have sF : Same F (backF as F') := fun b u e => by
    show (if b ∈ as then none else F' b) = _
    by_cases hb : b ∈ as
    · rw [nF b hb] at e; cases e
    · rw [if_neg hb]; exact inF b hb u e
  refine ⟨⟨⟨O.g.f.trans sF, fun b u e => ?_, fun b u hb e => g.k b u (fun h => nomatch h) (O.g.k b u hb e), fun b e => g.t b (O.g.t b e), fun b e => ?_, fun b xs e => ?_⟩, fun c hc => ?_, fun c hc => g.k _ _ (fun h => nomatch h) (O.ch c hc), O.nd, O.ca, O.nt⟩, sF, fun b xs e => ?_, fun b e => ?_⟩
  · have e : (if b ∈ as then none else F' b) = some u := e
    by_cases hb : b ∈ as
    · rw [if_pos hb] at e; cases e
    · rw [if_neg hb] at e; exact g.s b u e
  · show (if b ∈ as then none else F' b) = _ ∨ _
    by_cases hb : b ∈ as
    · rw [if_pos hb]
      rcases O.g.n b e with h0 | h0
      · rw [nF b hb] at h0; exact .inl h0
      · exact .inr h0
    · rw [if_neg hb]
      rcases O.g.n b e with h0 | h0
      · rcases g.n b (O.g.t b e) with h1 | ⟨xs, hx⟩
        · refine .inl (h1.trans ?_)
          show (if b ∈ as then H b else F b) = _
          rw [if_neg hb]; exact h0
        · rcases O.g.u b xs hx with z | z
          · exact absurd z e
          · exact .inr ⟨xs, z⟩
      · exact .inr h0
  · rcases g.u b xs e with z | z
    · refine .inl ?_
      cases q : Z.H b with
      | none => rfl
      | some u => exact absurd z (O.g.t b (by rw [q]; simp))
    · exact O.g.u b xs z
  · show (if c.1 ∈ as then none else F' c.1) = none
    by_cases hb : c.1 ∈ as
    · rw [if_pos hb]
    · rw [if_neg hb]
      have hl : lendF as F H c.1 = none := by
        show (if c.1 ∈ as then H c.1 else F c.1) = _
        rw [if_neg hb]; exact O.cf c hc
      exact g.none (O.ch c hc) (O.nt c hc) hl
  · show (if b ∈ as then none else F' b) = _
    by_cases hb : b ∈ as
    · obtain ⟨o, hc⟩ := hin b hb
      have h1 : lendF as F H b = some o := by
        show (if b ∈ as then H b else F b) = _
        rw [if_pos hb]; exact O.ch _ hc
      have h2 := g.f b o h1
      rw [e] at h2
      have h3 := O.nt _ hc
      have h3 : noTup o = true := h3
      rw [← Option.some.inj h2] at h3
      cases h3
    · rw [if_neg hb]; exact e
  · show (if b ∈ as then none else F' b) = _
    by_cases hb : b ∈ as
    · rw [if_pos hb]
    · rw [if_neg hb]; exact e
theorem Ow.fresh (O : Ow Z F cs H) (h : H p = none) : p ∉ cs.map (·.1) := fun hm => by
  obtain ⟨c, hc, e⟩ := List.mem_map.mp hm
  have z := O.ch c hc
  rw [e, h] at z
  cases z
theorem Ow.add' (O : Ow Z F cs H) (hm : p ∉ cs.map (·.1)) (hz : Z.H p = none) (hf : F p = none) (h : H p = some o) (ht : noTup o = true := by rfl) : Ow Z F ((p, o) :: cs) H where
  g := O.g
  cf := fun c hc => by
    rcases List.mem_cons.mp hc with rfl | hc
    · exact hf
    · exact O.cf c hc
  ch := fun c hc => by
    rcases List.mem_cons.mp hc with rfl | hc
    · exact h
    · exact O.ch c hc
  nd := by
    rw [List.map_cons, List.nodup_cons]
    exact ⟨hm, O.nd⟩
  ca := fun c hc => by
    rcases List.mem_cons.mp hc with rfl | hc
    · exact .inr hz
    · exact O.ca c hc
  nt := fun c hc => by
    rcases List.mem_cons.mp hc with rfl | hc
    · exact ht
    · exact O.nt c hc
theorem Ow.ne (O : Ow Z F cs H) (i j : Nat) (hij : i ≠ j) (ei : cs[i]? = some (a, o)) (ej : cs[j]? = some (q, o')) : a ≠ q := fun e => by
  subst e
  have h1 : (cs.map (·.1))[i]? = some a := by rw [List.getElem?_map, ei]; rfl
  have h2 : (cs.map (·.1))[j]? = some a := by rw [List.getElem?_map, ej]; rfl
  exact hij (nd_ix O.nd h1 h2)
end
theorem nmem2 {p q : Addr} {l : List Addr} (h : p ≠ q) (h2 : p ∉ l) : p ∉ q :: l := fun m => by
  rcases List.mem_cons.mp m with e | m
  · exact h e
  · exact h2 m
/-! ### while -/
inductive Ws (s r : Type) where
  | go (x : s)
  | stop (x : s)
  | rt (z : r)
def whL {s r : Type} (b : s → M (Ws s r)) : Nat → s → M (Fl s r)
  | 0, _ => bad
  | n + 1, x => b x >>= fun
    | .go x' => whL b n x'
    | .stop x' => .ok (.nx x')
    | .rt z => .ok (.rt z)
theorem whL_L {s r a : Type} {Q : a → Prop} {E : String → Prop} {b : s → M (Ws s r)} {n : Nat} {x : s} {k : Fl s r → M a} (h : wp (whL b n x >>= k) Q E) :
    ∃ (L : Nat → s → Prop) (X : s → Prop), L n x ∧ (∀ m x, L m x → wp (b x) (fun w => match w with
      | .go x' => ∃ m', m' < m ∧ L m' x'
      | .stop x' => X x'
      | .rt z => wp (k (.rt z)) Q E) E) ∧ ∀ x, X x → wp (k (.nx x)) Q E := by
  refine ⟨fun n x => wp (whL b n x >>= k) Q E, fun x => wp (k (.nx x)) Q E, h, fun m x hx => ?_, fun x hx => hx⟩
  cases m with
  | zero => exact hx.elim
  | succ m =>
    have hx : wp ((b x >>= fun
      | .go x' => whL b m x'
      | .stop x' => .ok (.nx x')
      | .rt z => .ok (.rt z)) >>= k) Q E := hx
    rw [wp_bind, wp_bind] at hx
    cases e : b x with
    | error e2 => rw [e] at hx; cases e2 <;> exact hx
    | ok w =>
      rw [e] at hx
      cases w with
      | go x' => exact ⟨m, Nat.lt_succ_self m, wp_bind.mpr hx⟩
      | stop x' => exact hx
      | rt z => exact hx
theorem while_P {c : TT} {tb : TS} {D : Ends} {σ : L2.St} {H : Hp} (W : Nat → L2.St → Hp → Prop) (X : L2.St → Hp → Prop) (n : Nat) (h0 : W n σ H) (exit : ∀ σ H, X σ H → D.nx σ H)
    (turn : (∀ σ H, X σ H → D.nx σ H) → ∀ m σ H, W m σ H → c σ H fun b H1 => if b = true then ∃ N : L2.St → Hp → Prop, (∀ σ' H', N σ' H' → ∃ m', m' < m ∧ W m' σ' H') ∧ tb { D with nx := N, ct := N, bk := D.nx } σ H1 else D.nx σ H1) : tWhile c tb D σ H :=
  ⟨W, ⟨n, h0⟩, turn exit⟩
/-! ### a < b < c < d -/
section
variable {X : Cx} {a b c d : Expr} {ta tb tc td : TE} {pos : Pos}
def tChain3 (r r' r'' : R2) (ta tb tc td : TE) : TE := fun σ H Q => ta σ H fun x H1 => tb σ H1 fun y H2 => r x y H2 fun z H3 => ∃ k, z = .bl k ∧
  (if k = true then tc σ H3 fun w' H4 => r' y w' H4 fun z' H5 => ∃ k', z' = .bl k' ∧ (if k' = true then td σ H5 fun u' H6 => r'' w' u' H6 Q else Q (.bl false) H5) else Q (.bl false) H3)
theorem pt_chain3 {op op' op'' : CmpOp} {r r' r'' : R2} (ho : OpR X (compareOp op) r) (ho' : OpR X (compareOp op') r') (ho'' : OpR X (compareOp op'') r'') (ha : PE X a ta) (hb : PE X b tb) (hc : PE X c tc) (hd : PE X d td)
    (hm : lastMarks [op, op', op''] [b, c, d] = false := by with_unfolding_all rfl) : PT X (.Compare a [op, op', op''] [b, c, d] pos) (tTest (tChain3 r r' r'' ta tb tc td)) := by
  refine ⟨fun pins s σ H Q I h => ?_⟩
  refine isTrue_chain (thn (ha.run pins s σ H _ I h) fun v s1 ⟨x, H1, I1, r1, q1⟩ => test_link (thn (hb.run pins s1 σ H1 _ I1 q1) fun u s2 ⟨y, H2, I2, r2, q2⟩ =>
    thn (ho pins s2 σ H2 x y v u _ I2 r1 r2 q2) fun d1 s3 ⟨z, H3, I3, r3, k, e, q3⟩ => ?_)) hm
  subst e
  cases r3
  refine wpAny_truthy_bool ?_
  cases k with
  | false =>
    obtain ⟨k', e', q'⟩ := q3
    cases e'
    exact ite_ff ⟨H3, I3, q'⟩
  | true =>
    refine ite_tt (test_link (thn (hc.run pins s3 σ H3 _ I3 q3) fun w' s4 ⟨z', H4, I4, r4, q4⟩ => thn (ho' pins s4 σ H4 y z' u w' _ I4 r2 r4 q4) fun d2 s5 ⟨z2, H5, I5, r5, k2, e2, q5⟩ => ?_))
    subst e2
    cases r5
    refine wpAny_truthy_bool ?_
    cases k2 with
    | false =>
      obtain ⟨k', e', q'⟩ := q5
      cases e'
      exact ite_ff ⟨H5, I5, q'⟩
    | true =>
      refine ite_tt (test_last (thn (hd.run pins s5 σ H5 _ I5 q5) fun u' s6 ⟨z3, H6, I6, r6, q6⟩ => thn (ho'' pins s6 σ H6 z' z3 w' u' _ I6 r4 r6 q6) fun d3 s7 ⟨z4, H7, I7, r7, k3, e3, q7⟩ => ?_))
      subst e3
      cases r7
      exact wpAny_truthy_bool ⟨H7, I7, q7⟩
end
/-! ### list.index of whole numbers -/
def ixI (xs : List Int) (y : Int) : M Int := if y ∈ xs then .ok ((xs.findIdx (· == y) : Nat) : Int) else bad
theorem wp_ixI {a : Type} {Q : a → Prop} {E : String → Prop} {xs : List Int} {y : Int} {k : Int → M a} (h : wp (ixI xs y >>= k) Q E) : ∃ j, xs.findIdx (· == y) = j ∧ xs[j]? = some y ∧ (∀ (m : Nat) z, m < j → xs[m]? = some z → z ≠ y) ∧ wp (k (j : Int)) Q E := by
  unfold ixI at h
  by_cases hm : y ∈ xs
  · rw [if_pos hm] at h
    have hlt : xs.findIdx (· == y) < xs.length := List.findIdx_lt_length_of_exists ⟨y, hm, by simp⟩
    refine ⟨_, rfl, ?_, fun m z hmj hz e => ?_, h⟩
    · rw [List.getElem?_eq_getElem hlt]
      have := List.findIdx_getElem (w := hlt)
      rw [eq_of_beq this]
    · have := List.not_of_lt_findIdx hmj
      obtain ⟨hl, hz⟩ := List.getElem?_eq_some_iff.mp hz
      rw [hz, e] at this
      simp at this
  · rw [if_neg hm] at h; exact h.elim
theorem all_flat_int : ∀ xs : List Int, (xs.map V.int).all flatV = true
  | [] => rfl
  | x :: xs => by rw [List.map_cons, List.all_cons, all_flat_int xs]; rfl
theorem int_noeq {xs : List Int} {y : Int} {j : Nat} (h : ∀ (m : Nat) z, m < j → xs[m]? = some z → z ≠ y) : ∀ (m : Nat) (z' : V), m < j → (xs.map V.int)[m]? = some z' → eqV z' (.int y) = false := fun m z' hm hz => by
  rw [List.getElem?_map] at hz
  cases e : xs[m]? with
  | none => rw [e] at hz; cases hz
  | some z =>
    rw [e] at hz
    have hz : V.int z = z' := Option.some.inj hz
    subst hz
    have := h m z hm e
    show (z == y) = false
    simpa using this
theorem int_at {xs : List Int} {y : Int} {j : Nat} (h : xs[j]? = some y) : (xs.map V.int)[j]? = some (.int y) := by rw [List.getElem?_map, h]; rfl
theorem int_eq {y : Int} : eqV (.int y) (.int y) = true := by show (y == y) = true; simp
/-! ### dict(list of pairs), the keys whole numbers -/
section
variable {β : Type} [Py β] {F H : Hp}
def mergeD (xs : List (Int × β)) : List (Int × β) := xs.foldl (fun acc p => dPut acc p.1 p.2) []
theorem merge_rd {kvs : List (Key × V)} {xs : List (Int × β)} (hs : RD F kvs xs) : ∀ {acc : List (Key × V)} {ac : List (Int × β)}, RD F acc ac → RD F (mergeK acc kvs) (xs.foldl (fun acc p => dPut acc p.1 p.2) ac) := by
  induction hs with
  | nil => intro acc ac h; exact h
  | @cons k v y kvs xs hv _ ih =>
    intro acc ac h
    exact ih (h.put k hv)
theorem pairs_of_rl {K : PySem.W.Frag} (s : Same F H) : ∀ {vs : List V} {xs : List (Int × β)}, RL F vs xs → ∃ (ps : List Addr) (kvs : List (Key × V)), vs = ps.map V.ref ∧ Paired (fun p kv => SqT K H p [kV kv.1, kv.2]) ps kvs ∧ RD F kvs xs
  | _, [], h => ⟨[], [], RL.nil_ h, .nil, .nil⟩
  | _, x :: xs, h => by
    obtain ⟨w, ws, rfl, h1, h2⟩ := RL.cons_ h
    obtain ⟨ps, kvs, e, hp, hr⟩ := pairs_of_rl (K := K) s h2
    obtain ⟨p, v1, v2, rfl, hp1, h3, h4⟩ := R.t2_ h1
    rw [R.int_ h3] at hp1
    exact ⟨p :: ps, (.inl x.1, v2) :: kvs, by rw [e]; rfl, .cons (SqT.of (s _ _ hp1)) hp, .cons (k := x.1) h4 hr⟩
end
/-! ### the same rules, the fragment told outright (within a comprehension) -/
section
variable {X : Cx} {K : PySem.W.Frag}
theorem ixTupK (h : X.K = K) : IxR X (rIxT K) := by rw [← h]; exact ix_tup
theorem ixListK (h : X.K = K) : IxR X (rIxL K) := by rw [← h]; exact ix_list
theorem listOfK (h : X.K = K) : CallR X (.type "list") (fun xs H Q => ∃ p ys, xs = [.ref p] ∧ (SqL K H p ys ∨ SqT K H p ys) ∧ ∀ l, H l = none → Q (.ref l) (upd H l (.lst ys))) := by rw [← h]; exact call_list_of
theorem isiK (h : X.K = K) : CallR X (.builtin "isinstance") (rIsi K) := by rw [← h]; exact call_isi
theorem slListK (h : X.K = K) : SlR X (rSlL K) := by rw [← h]; exact sl_list
theorem indexK (h : X.K = K) : MtR X "list.index" (rIndex K) := by rw [← h]; exact mt_index
end
/-! ### enumerate in a comprehension -/
def enumL {b : Type} (xs : List b) : List (Int × b) := xs.zipIdx.map fun p => ((p.2 : Int), p.1)
theorem enumL_get {b : Type} {xs : List b} {i : Nat} {x : b} (h : xs[i]? = some x) : (enumL xs).drop i = ((i : Int), x) :: (enumL xs).drop (i + 1) := by
  apply drop_at
  unfold enumL
  rw [List.getElem?_map, List.getElem?_zipIdx, h]
  simp
theorem enumL_len {b : Type} {xs : List b} : (enumL xs).length = xs.length := by unfold enumL; simp
theorem enumL_end {b : Type} {xs : List b} {vs : List V} (h : vs.length = xs.length) : (enumL xs).drop vs.length = [] := by
  rw [h, ← enumL_len, List.drop_length]
theorem comp_lenE {b : Type} {w vs : List V} {xs : List b} {i : Nat} (la : w.length ≤ i) (hi : i < vs.length) (hl : vs.length = xs.length) (c : (enumL xs).length < 16777216) : w.length < sizeLine := by
  rw [enumL_len] at c
  exact lt_line (by omega)
theorem zip_at {a b : Type} {xs : List a} {ys : List b} {i : Nat} {x : a} {y : b} (h : xs[i]? = some x) (h2 : ys[i]? = some y) : (xs.zip ys).drop i = (x, y) :: (xs.zip ys).drop (i + 1) := by
  apply drop_at
  rw [List.getElem?_zip_eq_some]
  exact ⟨h, h2⟩
theorem zip_end {a b : Type} {xs : List a} {ys : List b} {vs ws : List V} (h : vs.length = xs.length) (h2 : ws.length = ys.length) : (xs.zip ys).drop (min vs.length ws.length) = [] := by
  rw [h, h2, ← List.length_zip, List.drop_length]
theorem comp_lenZ {a b : Type} {w vs ws : List V} {xs : List a} {ys : List b} {i : Nat} (la : w.length ≤ i) (hi : i < min vs.length ws.length) (h : vs.length = xs.length) (h2 : ws.length = ys.length) (c : (xs.zip ys).length < 16777216) : w.length < sizeLine := by
  rw [List.length_zip, ← h, ← h2] at c
  exact lt_line (by omega)
section
variable {X : Cx} {K : PySem.W.Frag}
theorem cr_sumK (hc : X.calm = true) (h : X.K = K) : CallR X (.builtin "sum") (rSum K) := by rw [← h]; exact cr_sum hc
end
end PG

set_option Elab.async false
set_option linter.all false
set_option maxRecDepth 100000
set_option maxHeartbeats 4000000
namespace PG
open PySem PySem.Spec PyProof.Rows L2
open PySem.W (T3 T4 Datum DatumOrd Holds HoldAll EachIs)
/-! ### sums: ("number", n), (word, n), (word,), (word, a, b) -/
inductive Sm where
  | num (w : Str) (n : Int)
  | nam (w : Str)
  | two (w : Str) (a b : Sm)
  deriving DecidableEq
def Sm.d : Sm → PyData
  | .num w n => .tuple [.str w, .int n]
  | .nam w => .tuple [.str w]
  | .two w a b => .tuple [.str w, a.d, b.d]
instance : Py Sm := ⟨Sm.d⟩
def Sm.word : Sm → Str
  | .num w _ => w
  | .nam w => w
  | .two w _ _ => w
def Sm.int? : Sm → Option Int
  | .num _ n => some n
  | _ => none
def Sm.two? : Sm → Option (Sm × Sm)
  | .two _ a b => some (a, b)
  | _ => none
section
variable {F : Hp} {v : V} {p : Addr} {x : Sm}
theorem R.sm_ (h : R F v x) : ∃ p ws, v = .ref p ∧ F p = some (.tup (V.str x.word :: ws)) := by
  cases x with
  | num w n =>
    obtain ⟨p, v1, v2, e, hp, h1, h2⟩ := R.t2_ (show R (a := Str × Int) F v (w, n) from h)
    rw [R.str_ h1] at hp
    exact ⟨p, [v2], e, hp⟩
  | nam w =>
    have h' : Rep F v (.tuple [.str w]) := h
    cases h' with
    | tup ha hs =>
      cases hs with
      | cons h1 hs =>
        cases hs
        cases h1
        exact ⟨_, _, rfl, ha⟩
  | two w a b =>
    obtain ⟨p, v1, v2, v3, e, hp, h1, h2, h3⟩ := R.t3_ (show R (a := T3 Str Sm Sm) F v ⟨w, a, b⟩ from h)
    rw [R.str_ h1] at hp
    exact ⟨p, [v2, v3], e, hp⟩
theorem R.sm_int {n : Int} (h : R F v x) (e : x.int? = some n) : ∃ p w, v = .ref p ∧ F p = some (.tup [V.str w, V.int n]) := by
  cases x with
  | num w m =>
    obtain ⟨p, v1, v2, e1, hp, h1, h2⟩ := R.t2_ (show R (a := Str × Int) F v (w, m) from h)
    rw [R.str_ h1, R.int_ h2] at hp
    have e : some m = some n := e
    cases e
    exact ⟨p, w, e1, hp⟩
  | nam w => cases e
  | two w a b => cases e
theorem R.sm_two {q : Sm × Sm} (h : R F v x) (e : x.two? = some q) : ∃ p w va vb, v = .ref p ∧ F p = some (.tup [V.str w, va, vb]) ∧ R F va q.1 ∧ R F vb q.2 := by
  cases x with
  | num w m => cases e
  | nam w => cases e
  | two w a b =>
    obtain ⟨p, v1, v2, v3, e1, hp, h1, h2, h3⟩ := R.t3_ (show R (a := T3 Str Sm Sm) F v ⟨w, a, b⟩ from h)
    rw [R.str_ h1] at hp
    have e : some (a, b) = some q := e
    cases e
    exact ⟨p, w, v2, v3, e1, hp, h2, h3⟩
theorem R.of_num {q : Str × Int} (h : R F v q) : R F v (Sm.num q.1 q.2) := h
theorem R.of_two {q : T3 Str Sm Sm} (h : R F v q) : R F v (Sm.two q.a q.b q.c) := h
theorem R.of_nam {w : Str} (h : F p = some (.tup [V.str w])) : R F (.ref p) (Sm.nam w) := Rep.tup h (.cons (.str w) .nil)
end
/-! ### a whole number or a list of such -/
inductive IL where
  | i (n : Int)
  | l (xs : List Int)
instance : Py IL := ⟨fun
  | .i n => Py.toD n
  | .l xs => Py.toD xs⟩
def IL.i? : IL → Option Int
  | .i n => some n
  | _ => none
def IL.l? : IL → Option (List Int)
  | .l xs => some xs
  | _ => none
section
variable {F : Hp} {v : V}
theorem R.il_i {x : IL} {n : Int} (h : R F v x) (e : x.i? = some n) : R F v n := by
  cases x with
  | i m => have e : some m = some n := e; cases e; exact h
  | l xs => cases e
theorem R.il_l {x : IL} {xs : List Int} (h : R F v x) (e : x.l? = some xs) : R F v xs := by
  cases x with
  | i m => cases e
  | l ys => have e : some ys = some xs := e; cases e; exact h
theorem R.of_i {n : Int} (h : R F v n) : R F v (IL.i n) := h
theorem R.of_l {xs : List Int} (h : R F v xs) : R F v (IL.l xs) := h
end
section
variable {β : Type} [Py β] {F : Hp}
def mergeDS (xs : List (Str × β)) : List (Str × β) := xs.foldl (fun acc p => dPut acc p.1 p.2) []
theorem merge_rdS {kvs : List (Key × V)} {xs : List (Str × β)} (hs : RD F kvs xs) : ∀ {acc : List (Key × V)} {ac : List (Str × β)}, RD F acc ac → RD F (mergeK acc kvs) (xs.foldl (fun acc p => dPut acc p.1 p.2) ac) := by
  induction hs with
  | nil => intro acc ac h; exact h
  | @cons k v y kvs xs hv _ ih =>
    intro acc ac h
    exact ih (h.put k hv)
end
section
variable {X : Cx} {K : PySem.W.Frag} {pos : Pos}
theorem slTupK (h : X.K = K) : SlR X (rSlT K) := by rw [← h]; exact sl_tup
theorem pgLstK (h : X.K = K) {es : List Expr} {k : Nat} {t : TGs} {n : Nat} (hc : X.calm = true) (hp : PGs X es t)
    (hn : (assignEach es X.env).length = n := by rfl) (hst : (assignEach es X.env).findIdx? (·.1) = none := by rfl) : PG X (.Tuple es k pos) (gLst K n t) := by rw [← h]; exact pg_lst hc hp hn hst
end
theorem RL.two {a : Type} [Py a] {F : Hp} {vs : List V} {xs : List a} (h : RL F vs xs) (e : xs.length = 2) : ∃ v1 v2 x1 x2, vs = [v1, v2] ∧ xs = [x1, x2] ∧ R F v1 x1 ∧ R F v2 x2 := by
  match xs, e with
  | [x1, x2], _ =>
    obtain ⟨w, ws, rfl, h1, h2⟩ := RL.cons_ h
    obtain ⟨w2, ws2, rfl, h3, h4⟩ := RL.cons_ h2
    rw [RL.nil_ h4]
    exact ⟨w, w2, x1, x2, rfl, rfl, h1, h3⟩
/-- a list of just two -/
def two2 {a : Type} (xs : List a) : M (a × a) := match xs with
  | [x, y] => .ok (x, y)
  | _ => bad
theorem wp_two2 {a b : Type} {Q : a → Prop} {E : String → Prop} {xs : List b} {k : b × b → M a} (h : wp (two2 xs >>= k) Q E) : ∃ x y, xs = [x, y] ∧ wp (k (x, y)) Q E := by
  match xs, h with
  | [x, y], h => exact ⟨x, y, rfl, h⟩
  | [], h => exact h.elim
  | [_], h => exact h.elim
  | _ :: _ :: _ :: _, h => exact h.elim
theorem sl3 (a b c : V) : ¬ (HT.sIx [a, b, c].length 0 (some (1 : Int)) = 0 ∧ HT.sIx [a, b, c].length [a, b, c].length none = [a, b, c].length) := fun h => absurd h.1 (by show ¬ (HT.sIx 3 0 (some (1 : Int)) = 0); decide)
theorem intB {X : Cx} : CallR X (.type "int") (fun xs H Q => ∃ k, xs = [.bl k] ∧ Q (.int (if k then 1 else 0)) H) := fun pins s σ H xs us Q I r h => call_int1 pins s σ H xs us Q I r (.inr h)
theorem atI0 {a : Type} (x : a) (xs : List a) : L2.atI (x :: xs) (0 : Int) = some x := by
  unfold L2.atI ixN
  rw [if_pos (by omega), if_pos (by rw [List.length_cons]; omega)]
  rfl
end PG

set_option Elab.async false
set_option linter.all false
set_option maxRecDepth 100000
set_option maxHeartbeats 4000000
namespace PG
open PySem PySem.Spec PyProof.Rows L2
open PySem.W (T3 T4 Datum DatumOrd Holds HoldAll EachIs)
/-! ### == of data of any depth, the depth asked outright -/
class DatumX (a : Type) [Py a] [DecidableEq a] : Prop where
  plain : ∀ x : a, (Py.toD x).plain = true
  eqv : ∀ x y : a, PyData.eqv (Py.toD x) (Py.toD y) = decide (x = y)
instance (priority := 50) {a : Type} [Py a] [DecidableEq a] [Datum a] [IsD a] : DatumX a := ⟨fun x => by rw [IsD.eq]; exact Datum.plain x, fun x y => by rw [IsD.eq, IsD.eq]; exact Datum.eqv x y⟩
theorem Sm.pl : ∀ x : Sm, x.d.plain = true
  | .num w n => by simp [Sm.d, PyData.plain, PyData.plainAll]
  | .nam w => by simp [Sm.d, PyData.plain, PyData.plainAll]
  | .two w a b => by simp [Sm.d, PyData.plain, PyData.plainAll, Sm.pl a, Sm.pl b]
theorem ev23 (w w' : Str) (n : PyData) (x y : PyData) : PyData.eqv (.tuple [.str w, n]) (.tuple [.str w', x, y]) = false := by simp [PyData.eqv, PyData.eqvAll]
theorem ev32 (w w' : Str) (n : PyData) (x y : PyData) : PyData.eqv (.tuple [.str w', x, y]) (.tuple [.str w, n]) = false := by simp [PyData.eqv, PyData.eqvAll]
theorem ev13 (w w' : Str) (x y : PyData) : PyData.eqv (.tuple [.str w]) (.tuple [.str w', x, y]) = false := by simp [PyData.eqv, PyData.eqvAll]
theorem ev31 (w w' : Str) (x y : PyData) : PyData.eqv (.tuple [.str w', x, y]) (.tuple [.str w]) = false := by simp [PyData.eqv, PyData.eqvAll]
theorem Sm.ev : ∀ x y : Sm, PyData.eqv x.d y.d = decide (x = y)
  | .num w n, .num w' n' => by
    simp only [Sm.d, PyData.eqv, PyData.eqvAll, Bool.and_true]
    rw [PySem.W.beq_decide, PySem.W.beq_decide, ← Bool.decide_and]
    exact decide_eq_decide.mpr (by rw [Sm.num.injEq])
  | .num w n, .nam w' => by simp [Sm.d, PyData.eqv, PyData.eqvAll]
  | .num w n, .two w' a b => (ev23 w w' (.int n) a.d b.d).trans (by simp)
  | .nam w, .num w' n => by simp [Sm.d, PyData.eqv, PyData.eqvAll]
  | .nam w, .nam w' => by
    simp only [Sm.d, PyData.eqv, PyData.eqvAll, Bool.and_true]
    rw [PySem.W.beq_decide]
    exact decide_eq_decide.mpr (by rw [Sm.nam.injEq])
  | .nam w, .two w' a b => (ev13 w w' a.d b.d).trans (by simp)
  | .two w a b, .num w' n => (ev32 w' w (.int n) a.d b.d).trans (by simp)
  | .two w a b, .nam w' => (ev31 w' w a.d b.d).trans (by simp)
  | .two w a b, .two w' a' b' => by
    simp only [Sm.d, PyData.eqv, PyData.eqvAll, Bool.and_true]
    rw [PySem.W.beq_decide, Sm.ev a a', Sm.ev b b', ← Bool.decide_and, ← Bool.decide_and]
    exact decide_eq_decide.mpr (by rw [Sm.two.injEq])
instance : DatumX Sm := ⟨Sm.pl, Sm.ev⟩
section
variable {a b c d : Type} [Py a] [DecidableEq a] [DatumX a] [Py b] [DecidableEq b] [DatumX b] [Py c] [DecidableEq c] [DatumX c] [Py d] [DecidableEq d] [DatumX d]
theorem plainX : ∀ xs : List a, PyData.plainAll (xs.map Py.toD) = true
  | [] => rfl
  | x :: xs => by
    rw [List.map_cons, PyData.plainAll, DatumX.plain x, plainX xs]
    rfl
theorem eqvX : ∀ xs ys : List a, PyData.eqvAll (xs.map Py.toD) (ys.map Py.toD) = decide (xs = ys)
  | [], [] => by simp only [List.map_nil, PyData.eqvAll, decide_true]
  | [], _ :: _ => by simp [PyData.eqvAll]
  | _ :: _, [] => by simp [PyData.eqvAll]
  | x :: xs, y :: ys => by
    rw [List.map_cons, List.map_cons, PyData.eqvAll, DatumX.eqv x y, eqvX xs ys, ← Bool.decide_and]
    exact decide_eq_decide.mpr (by rw [List.cons.injEq])
instance : DatumX (List a) := ⟨fun xs => by show PyData.plain (.list (xs.map Py.toD)) = true; simp only [PyData.plain]; exact plainX xs, fun xs ys => by show PyData.eqv (.list (xs.map Py.toD)) (.list (ys.map Py.toD)) = _; simp only [PyData.eqv]; exact eqvX xs ys⟩
theorem T4.sm {p q : T4 a b c d} : p = q ↔ p.a = q.a ∧ p.b = q.b ∧ p.c = q.c ∧ p.d = q.d := by
  cases p; cases q
  simp
instance : DatumX (T4 a b c d) := ⟨fun p => by show PyData.plain (.tuple [_, _, _, _]) = true; simp only [PyData.plain, PyData.plainAll, DatumX.plain, Bool.and_self], fun p q => by
  show PyData.eqv (.tuple [_, _, _, _]) (.tuple [_, _, _, _]) = _
  simp only [PyData.eqv, PyData.eqvAll]
  rw [DatumX.eqv, DatumX.eqv, DatumX.eqv, DatumX.eqv, Bool.and_true, ← Bool.decide_and, ← Bool.decide_and, ← Bool.decide_and]
  exact decide_eq_decide.mpr T4.sm.symm⟩
end
def dep {a : Type} [Py a] (x : a) : Nat := (Py.toD x).depth
section
variable {X : Cx} (a : Type) [Py a] [DecidableEq a] [DatumX a]
def rEqX : R2 := fun x y H Q => ∃ p q : a, R H x p ∧ R H y q ∧ min (dep p) (dep q) ≤ 60 ∧ Q (.bl (decide (p = q))) H
def rNeX : R2 := fun x y H Q => ∃ p q : a, R H x p ∧ R H y q ∧ min (dep p) (dep q) ≤ 60 ∧ Q (.bl (decide (p ≠ q))) H
theorem op_eqX (hu : X.A.units + 64 < cLine) : OpR X (compareOp .Eq) (rEqX a) := by
  intro pins s σ H x y v u Q I rx ry h
  obtain ⟨p, q, hp, hq, hd, k⟩ := h
  obtain ⟨as, ra⟩ := Dp.reads I _ _ _ (Rep.dp _ _ hp) rx
  obtain ⟨bs, rb⟩ := Dp.reads I _ _ _ (Rep.dp _ _ hq) ry
  have hd' : min (Py.toD p).depth (Py.toD q).depth ≤ 60 := hd
  exact PySem.SeqAt.eq_plain ra rb (DatumX.plain p) (DatumX.plain q) (by omega) (by rw [DatumX.eqv p q]; exact ⟨.bl _, H, I, rfl, k⟩)
theorem op_neX (hu : X.A.units + 64 < cLine) : OpR X (compareOp .NotEq) (rNeX a) := by
  intro pins s σ H x y v u Q I rx ry h
  obtain ⟨p, q, hp, hq, hd, k⟩ := h
  obtain ⟨as, ra⟩ := Dp.reads I _ _ _ (Rep.dp _ _ hp) rx
  obtain ⟨bs, rb⟩ := Dp.reads I _ _ _ (Rep.dp _ _ hq) ry
  have hd' : min (Py.toD p).depth (Py.toD q).depth ≤ 60 := hd
  exact PySem.SeqAt.ne_plain ra rb (DatumX.plain p) (DatumX.plain q) (by omega) (by rw [DatumX.eqv p q, ← decide_not]; exact ⟨.bl _, H, I, rfl, k⟩)
end
/-! ### a tuple of things of one kind, of any length -/
structure Tp (a : Type) where
  l : List a
instance {a : Type} [Py a] : Py (Tp a) := ⟨fun t => .tuple (t.l.map Py.toD)⟩
section
variable {a : Type} [Py a] {F : Hp} {v : V}
theorem R.tp_ {x : Tp a} (h : R F v x) : ∃ p vs, v = .ref p ∧ F p = some (.tup vs) ∧ RL F vs x.l := by
  have h' : Rep F v (.tuple (x.l.map Py.toD)) := h
  cases h' with
  | tup ha hs => exact ⟨_, _, rfl, ha, hs⟩
theorem R.tp2 {q : a × a} (h : R F v q) : R F v (Tp.mk [q.1, q.2]) := h
theorem R.tp3 {q : T3 a a a} (h : R F v q) : R F v (Tp.mk [q.a, q.b, q.c]) := h
theorem R.tp1 {w : Str} (h : R F v (Sm.nam w)) : R F v (Tp.mk [w]) := h
end
end PG

set_option Elab.async false
set_option linter.all false
set_option maxRecDepth 100000
set_option maxHeartbeats 4000000
namespace PG
open PySem PySem.Spec PyProof.Rows L2
open PySem.W (T3 T4 Datum DatumOrd Holds HoldAll EachIs)
/-! ### dict(a list of pairs), the keys tuples -/
def mergeT (kvs more : List (List Key × V)) : List (List Key × V) := more.foldl (fun m q => putK m q.1 q.2) kvs
theorem mergeT_kt {H : Hp} {kvs : List (List Key × V)} {xs : List (List Key × Addr × Value)} (r : KT H kvs xs) : ∀ {m : List (List Key × V)} {ms : List (List Key × Addr × Value)}, KT H m ms →
    KT H (mergeT m kvs) (storedAllH ms xs) := by
  induction r with
  | nil => intro m ms h; exact h
  | @cons p q ps qs h t ih =>
    intro m ms hm
    obtain ⟨e, hb, rv⟩ := h
    have := ih (KT.put hm q.1 (b := q.2.1) (by rw [← e]; exact hb) rv)
    unfold mergeT storedAllH at *
    rw [List.foldl_cons, List.foldl_cons, e]
    exact this
def PairT (K : PySem.W.Frag) (H : Hp) (p : Addr × Addr) (q : List Key × V) : Prop := SqT K H p.1 [.ref p.2, q.2] ∧ H p.2 = some (.tup (q.1.map kV))
theorem kt_at {H : Hp} {kvs : List (List Key × V)} {xs : List (List Key × Addr × Value)} (r : KT H kvs xs) : ∀ x ∈ xs, H x.2.1 = some (.tup (x.1.map kV)) := by
  induction r with
  | nil => exact fun x hx => nomatch hx
  | cons h _ ih => intro x hx; rcases List.mem_cons.mp hx with rfl | hx; · rw [← h.1]; exact h.2.1
                   · exact ih x hx
theorem ne_of_none {H : Hp} {b c : Addr} {o : HO} (e : H c = some o) (n : H b = none) : c ≠ b := fun z => by rw [z, n] at e; exact nomatch e
section
variable {X : Cx}
theorem tripT {pins : List (Addr × Obj)} {σ : L2.St} {H : Hp} {s : Shared} (I : Inv X pins σ H s) {ps : List (Addr × Addr)} {kvs : List (List Key × V)} (h : Paired (PairT X.K H) ps kvs) :
    ∃ xs : List (List Key × Addr × Value), KT H kvs xs ∧ xs.length = ps.length ∧ ∀ (j : Nat) q, xs[j]? = some q → ∃ b, ps[j]? = some b ∧ b.2 = q.2.1 ∧ IsTup s.heap b.1 #[.ref q.2.1, q.2.2] := by
  induction h with
  | nil => exact ⟨[], .nil, rfl, fun j q e => by simp at e⟩
  | @cons p kv ps' kvs' h t ih =>
    obtain ⟨xs, r, hl, hx⟩ := ih
    obtain ⟨h1, h2⟩ := h
    obtain ⟨its, rv, ht, _⟩ := I.tuple h1
    obtain ⟨u, y, ei, ru, ry⟩ := vals2 rv
    subst ei
    cases ru
    refine ⟨(kv.1, p.2, y) :: xs, .cons ⟨rfl, h2, ry⟩ r, by simp [hl], fun j q e => ?_⟩
    cases j with
    | zero =>
      have e' : (kv.1, p.2, y) = q := Option.some.inj e
      subst e'
      exact ⟨p, rfl, rfl, ht⟩
    | succ j => exact (hx j q (by simpa using e)).imp fun b z => ⟨by simpa using z.1, z.2⟩
theorem refs_pT : ∀ {ps : List (Addr × Addr)} {us : List Value}, Vals (ps.map fun p => V.ref p.1) us → us = ps.map fun p => Value.ref p.1
  | [], us, r => by rw [List.map_nil] at r; cases r; rfl
  | p :: ps, us, r => by
    rw [List.map_cons] at r
    cases r with
    | cons h t => cases h; rw [List.map_cons, ← refs_pT t]
theorem call_dictT (hcalm : X.calm = true) (hu : X.A.units + 64 < cLine) : CallR X (.type "dict") (fun xs H Q => ∃ (a : Addr) (ps : List (Addr × Addr)) (kvs : List (List Key × V)), xs = [.ref a] ∧
    SqL X.K H a (ps.map fun p => V.ref p.1) ∧ Paired (PairT X.K H) ps kvs ∧ ∀ p, H p = none → Q (.ref p) (upd H p (.dT (mergeT [] kvs)))) := by
  intro pins s σ H zs us Q I r q
  obtain ⟨a, ps, kvs, ez, hq, hp, q⟩ := q
  subst ez
  obtain ⟨u, eu, rx⟩ := vals1 r
  subst eu
  cases rx
  obtain ⟨its, rv, pl, hz⟩ := I.list hq
  have ei := refs_pT rv
  subst ei
  obtain ⟨xs, rel, hl, hx⟩ := tripT I hp
  obtain ⟨o, n, ho, hc, hd, hdat⟩ := pl
  have hz' : ps.length ≤ sizeLine := by simpa using hz
  have hkey : ∀ x ∈ xs, (tupleKind (mixKind X.prog X.w)).is s.heap x.1 x.2.1 := fun x hxm => key_of I.hok (kt_at rel x hxm)
  have hps : ∀ (j : Nat) (k v : Value), (xs.map fun x => (Value.ref x.2.1, x.2.2))[j]? = some (k, v) → ∃ q, xs[j]? = some q ∧ k = .ref q.2.1 ∧ v = q.2.2 := fun j k v e => by
    rw [List.getElem?_map] at e
    cases hq' : xs[j]? with
    | none => rw [hq'] at e; exact nomatch e
    | some q' => rw [hq'] at e; cases e; exact ⟨q', rfl, rfl, rfl⟩
  refine call_dict_pairsH (knd := tupleKind (mixKind X.prog X.w)) (ps := xs)
    (PairArg.list a _ (fun j => ((ps[j]?).map (·.1)).getD 0) (xs.map fun x => (Value.ref x.2.1, x.2.2))) (I.ok.hd hcalm) (show X.A.units + 1 + 1 < cLine by omega)
    ⟨⟨o, n, ho, hc, hd, hdat⟩, ⟨by simp [hl], fun j k v e => ?_⟩⟩ ⟨by simp, fun i k v e => ?_⟩ (fun h' hk x hxm => ?_) (by simpa [hl] using hz') fun h' tk hd' hk => ?_
  · obtain ⟨q', e1, rfl, rfl⟩ := hps j k v e
    obtain ⟨b, e2, _, ht⟩ := hx j q' e1
    have e3 : ((ps[j]?).map (·.1)).getD 0 = b.1 := by rw [e2]; rfl
    show _ ∧ PairAt s.heap (((ps[j]?).map (·.1)).getD 0) _ _
    rw [e3]
    exact ⟨by show _ = some (Value.ref (((ps[j]?).map (·.1)).getD 0)); rw [e3]; simp [e2], .inl ht⟩
  · obtain ⟨q', e1, rfl, rfl⟩ := hps i k v e
    exact ⟨q'.1, q'.2.1, e1, rfl⟩
  · obtain ⟨o', its', n', h1, h2⟩ := hkey x hxm
    exact ⟨o', its', n', hk _ _ (Nat.ne_of_lt (Heap.lt_size h1)) (fun z => nomatch z) h1, h2⟩
  · have hm : (s.heap.objs.size == sysModules) = false := beq_eq_false_iff_ne.mpr (Nat.ne_of_gt I.big)
    have hlen : (mergeT [] kvs).length ≤ sizeLine := by
      have h1 := Paired.length (mergeT_kt rel (m := []) (ms := []) .nil)
      have h2 := storedAllH_length xs ([] : List (List Key × Addr × Value))
      rw [List.length_nil, Nat.zero_add] at h2
      rw [h1]
      exact Nat.le_trans h2 (by rw [hl]; exact hz')
    obtain ⟨q', es, ep, g1, g2, g3, g4, _, g5⟩ := hd'
    refine ⟨.ref s.heap.objs.size, upd H s.heap.objs.size (.dT (mergeT [] kvs)), I.laid (t' := tk) (fun b o' e => hk b o' (fun z => nomatch z) e) (Nat.le_refl _) ⟨hlen, hm, _, (mergeT_kt rel .nil).keeps fun c ys ec => ?_, q', es, ep, g1, g2, g3, g4, g5⟩,
      rfl, q _ (I.hok.fresh (Nat.le_refl _))⟩
    rw [upd_ne (ne_of_none ec (I.hok.fresh (Nat.le_refl _)))]
    exact ec
end
section
variable {β : Type} [Py β] {F H : Hp}
def mergeDT (xs : List ((Int × Int) × β)) : List ((Int × Int) × β) := xs.foldl (fun m p => dPut m p.1 p.2) []
theorem mergeT_rd {kvs : List (List Key × V)} {xs : List ((Int × Int) × β)} (hs : RD F kvs xs) : ∀ {m : List (List Key × V)} {ms : List ((Int × Int) × β)}, RD F m ms → RD F (mergeT m kvs) (xs.foldl (fun m p => dPut m p.1 p.2) ms) := by
  induction hs with
  | nil => intro m ms h; exact h
  | @cons k v y kvs xs hv _ ih =>
    intro m ms h
    exact ih (h.put k hv)
theorem pairsT_of_rl {K : PySem.W.Frag} (s : Same F H) : ∀ {vs : List V} {xs : List ((Int × Int) × β)}, RL F vs xs → ∃ (ps : List (Addr × Addr)) (kvs : List (List Key × V)),
    vs = (ps.map fun p => V.ref p.1) ∧ Paired (PairT K H) ps kvs ∧ RD F kvs xs
  | _, [], h => ⟨[], [], RL.nil_ h, .nil, .nil⟩
  | _, x :: xs, h => by
    obtain ⟨w, ws, rfl, h1, h2⟩ := RL.cons_ h
    obtain ⟨ps, kvs, e, hp, hr⟩ := pairsT_of_rl (K := K) s h2
    obtain ⟨p, v1, v2, rfl, hp1, h3, h4⟩ := R.t2_ h1
    obtain ⟨b, w1, w2, rfl, hb, h5, h6⟩ := R.t2_ h3
    rw [R.int_ h5, R.int_ h6] at hb
    exact ⟨(p, b) :: ps, ([.inl x.1.1, .inl x.1.2], v2) :: kvs, by rw [e]; rfl, .cons ⟨SqT.of (s _ _ hp1), s _ _ hb⟩ hp, .cons (k := x.1) h4 hr⟩
end
/-! ### max and min of a list -/
def mxI : List Int → Option Int
  | [] => none
  | x :: xs => match mxI xs with
    | none => some x
    | some m => some (if m < x then x else m)
def mnI : List Int → Option Int
  | [] => none
  | x :: xs => match mnI xs with
    | none => some x
    | some m => some (if x < m then x else m)
theorem mxI_none : ∀ {xs : List Int}, mxI xs = none → xs = []
  | [], _ => rfl
  | x :: xs, h => by
    unfold mxI at h
    cases e : mxI xs <;> rw [e] at h <;> exact nomatch h
theorem mnI_none : ∀ {xs : List Int}, mnI xs = none → xs = []
  | [], _ => rfl
  | x :: xs, h => by
    unfold mnI at h
    cases e : mnI xs <;> rw [e] at h <;> exact nomatch h
theorem mxI_is : ∀ {xs : List Int} {m : Int}, mxI xs = some m → m ∈ xs ∧ ∀ y ∈ xs, y ≤ m
  | [], _, h => nomatch h
  | x :: xs, m, h => by
    unfold mxI at h
    cases e : mxI xs with
    | none =>
      rw [e] at h
      cases h
      rw [mxI_none e]
      exact ⟨List.mem_cons_self, fun y hy => by rw [List.mem_singleton.mp hy]; exact Int.le_refl _⟩
    | some n =>
      rw [e] at h
      obtain ⟨h1, h2⟩ := mxI_is e
      have h : (if n < x then x else n) = m := Option.some.inj h
      by_cases z : n < x
      · rw [if_pos z] at h
        subst h
        refine ⟨List.mem_cons_self, fun y hy => ?_⟩
        rcases List.mem_cons.mp hy with hy | hy
        · omega
        · have := h2 y hy; omega
      · rw [if_neg z] at h
        subst h
        refine ⟨List.mem_cons_of_mem _ h1, fun y hy => ?_⟩
        rcases List.mem_cons.mp hy with hy | hy
        · omega
        · exact h2 y hy
theorem mnI_is : ∀ {xs : List Int} {m : Int}, mnI xs = some m → m ∈ xs ∧ ∀ y ∈ xs, m ≤ y
  | [], _, h => nomatch h
  | x :: xs, m, h => by
    unfold mnI at h
    cases e : mnI xs with
    | none =>
      rw [e] at h
      cases h
      rw [mnI_none e]
      exact ⟨List.mem_cons_self, fun y hy => by rw [List.mem_singleton.mp hy]; exact Int.le_refl _⟩
    | some n =>
      rw [e] at h
      obtain ⟨h1, h2⟩ := mnI_is e
      have h : (if x < n then x else n) = m := Option.some.inj h
      by_cases z : x < n
      · rw [if_pos z] at h
        subst h
        refine ⟨List.mem_cons_self, fun y hy => ?_⟩
        rcases List.mem_cons.mp hy with hy | hy
        · omega
        · have := h2 y hy; omega
      · rw [if_neg z] at h
        subst h
        refine ⟨List.mem_cons_of_mem _ h1, fun y hy => ?_⟩
        rcases List.mem_cons.mp hy with hy | hy
        · omega
        · exact h2 y hy
theorem mxI_uq {xs : List Int} {m n : Int} (h : mxI xs = some m) (h1 : n ∈ xs) (h2 : ∀ y ∈ xs, y ≤ n) : m = n := by
  have a := mxI_is h
  have b := a.2 n h1
  have c := h2 m a.1
  omega
theorem mnI_uq {xs : List Int} {m n : Int} (h : mnI xs = some m) (h1 : n ∈ xs) (h2 : ∀ y ∈ xs, n ≤ y) : m = n := by
  have a := mnI_is h
  have b := a.2 n h1
  have c := h2 m a.1
  omega
section
variable {X : Cx} {K : PySem.W.Frag}
theorem cr_maxK (hc : X.calm = true) (h : X.K = K) : CallR X (.builtin "max") (rMax K) := by rw [← h]; exact cr_max hc
theorem cr_minK (hc : X.calm = true) (h : X.K = K) : CallR X (.builtin "min") (rMin K) := by rw [← h]; exact cr_min hc
end
end PG

set_option Elab.async false
set_option linter.all false
set_option maxRecDepth 100000
set_option maxHeartbeats 4000000
namespace PG
open PySem PySem.Spec PyProof.Rows L2
open PySem.W (T3 T4 Datum DatumOrd Holds HoldAll EachIs)
/-! ### an exception that was caught and is kept: tracked from then on -/
def excAt (cls : Value) (d : Option Addr) (a : Addr) : Heap → Prop := fun h => ∃ o vs, h.get? a = some o ∧ Zc cls d o ∧ o.data = .fields vs
def excO (cls : Value) (d : Option Addr) (a : Addr) : HO := .ext (excAt cls d a)
section
variable {X : Cx} {pins : List (Addr × Obj)} {σ : L2.St} {H : Hp} {s : Shared}
theorem adopt {a : Addr} {cls : Value} {d : Option Addr} (I : L2.Inv X pins σ H s) (ha : H a = none) (hp : excAt cls d a s.heap) (h0 : X.s_0.heap.get? a = none) (nL : a ≠ X.env.locals) (np : ∀ p ∈ X.pn ++ pins, p.1 ≠ a) :
    L2.Inv X pins σ (upd H a (excO cls d a)) s := by
  obtain ⟨o, vs, ho, hz, hd⟩ := id hp
  have keep : ∀ {b : Addr} {u : HO}, H b = some u → upd H a (excO cls d a) b = some u := fun {b u} q => (upd_ne (ne_of_none q ha)).trans q
  have bare : ∀ {b : Addr}, b ≠ a → H b = none → upd H a (excO cls d a) b = none := fun {b} z q => (upd_ne z).trans q
  refine ⟨I.ok, I.os, I.bare, ⟨I.base.keep, I.base.slot, fun b u q n hx => bare (fun z => ?_) (I.base.free b u q n hx), I.base.there, fun b xs q => keep (I.base.tups b xs q), fun b u v q => keep (I.base.frzs b u v q), fun b ps q => ?_⟩, I.loc, I.cell, bare (Ne.symm nL) I.free, fun y k e => bare (fun z => ?_) (I.freeC y k e), fun p hq => ?_, ?_, I.len⟩
  · rw [z, h0] at q; exact nomatch q
  · obtain ⟨more, r⟩ := I.base.tbls b ps q
    exact ⟨more, keep r⟩
  · obtain ⟨v, w, hw, hv⟩ := I.cell y k e
    rw [z, ho] at hw
    cases hw
    rw [hd] at hv
    exact nomatch hv
  · obtain ⟨q1, q2, q3⟩ := I.pin p hq
    exact ⟨q1, bare (np p hq) q2, q3⟩
  · exact L2.HOk.laidN I.hok (fun _ _ q => q) ha ⟨hp, ⟨o, ho⟩, fun g1 g2 x k => x.imp fun o' y => y.imp fun vs' z => ⟨k _ z.1, z.2⟩⟩
end
/-- what the clause 'except x as n', whose suite keeps the exception, wishes -/
def wKeep (K : PySem.W.Frag) (c : Value) (i : Nat) (ts : Addr → TS) (out : WX) (D : Ends) : WX := fun cls d σ H =>
  ∃ b, PySem.W.exmOne K cls c = some b ∧ (b = true → ∀ a, H a = none → ts a { nx := fun σ' H' => D.nx (σ'.set i none) (upd H' a (excO cls d a)), rt := fun _ _ => False, bk := fun _ _ => False, ct := fun _ _ => False } (σ.set i (some (.ref a))) H) ∧ (b = false → out cls d σ H)
section
variable {X : Cx} {x n : Str} {c : Value} {i : Nat} {body suite : List Stmt} {b1 : Stmt} {np q1 q2 : Pos} {tb : WX → TS} {ts : Addr → TS} {out : WX}
theorem ps_try_keep (hs : X.stack = X.env :: X.outer) (hf : X.env.frame = some X.env.locals) (hex : X.ex = []) (hN : X.N.Nodup) (hi : X.N[i]? = some n) (hl : X.env.kindOf n = some .local) (hc : Names X x c) (tk : Takes X out)
    (hb : ∀ (W : WX) (pn : List (Addr × Obj)) (xe : Value → Shared → Prop), Takes (X.tr pn xe) W → PassesOwn (model X.prog X.w) X.A X.env xe → PSs (X.tr pn xe) body (tb W))
    (hsu : ∀ (a : Addr) (o : Obj) (pn : List (Addr × Obj)), PSs (X.suite a ((a, o) :: pn)) (b1 :: suite) (ts a)) :
    PS X (.Try body [.ExceptHandler (some (.Name x np)) (some n) (b1 :: suite) q1] [] [] q2) (fun D σ H => tb (wKeep X.K c i ts out D) D σ H) := by
  refine ⟨fun pins s σ H D I wish => wpAny_Try_except ?_⟩
  have ok := I.ok
  have hfr : X.A.frames = some (X.env :: X.outer) := ok.frames.trans (by rw [hs])
  have run := (hb (wKeep X.K c i ts out D) (X.pn ++ pins) (fun e g1 => wpAny (model X.prog X.w) X.A (noteFrame e X.env) (fun _ g2 => wpAny (model X.prog X.w) X.A (setFlight e none)
    (fun _ g3 => wpAny (model X.prog X.w) X.A (handleBy e X.env [.ExceptHandler (some (.Name x np)) (some n) (b1 :: suite) q1]) (SP X pins D) X.xe g3) X.xe g2) X.xe g1)
    (fun u g ⟨a, B, sI, ps, τ, G, cls, d, eu, J0, nb, up, sky, na, eos, ag, b, hb1, yes, no⟩ => by
      subst eu
      have J : L2.Inv X pins τ G sI := J0.ofTry ok
      show wpAny (model X.prog X.w) X.A (noteFrame (.ref a) X.env) _ _ _
      refine Sky.land Zc.steady hfr hf (show Sky B (X.env :: X.outer) a (Zc cls d) X.env.locals g.heap by rw [← hs]; exact sky) fun k1 fl1 up1 => ?_
      have J1 : L2.Inv X pins τ G { g with heap := k1 } := J.landed nb fl1.1 (up.trans up1) eos ag
      obtain ⟨o1, vs1, ho1, hz1, hd1⟩ := fl1.there
      have off : a ∉ frs (X.env :: X.outer) := fun hm => by
        obtain ⟨_, o', eo, hnf⟩ := fl1.2.2.1.mem hm
        rw [ho1] at eo
        cases eo
        exact hnf _ hd1
      have nL : a ≠ X.env.locals := fun z => off (List.mem_filterMap.mpr ⟨X.env, List.mem_cons_self, by rw [hf, z]⟩)
      have nF : a ∉ X.fs := fun hm => by
        obtain ⟨e, he, q⟩ := List.mem_filterMap.mp hm
        exact off (List.mem_filterMap.mpr ⟨e, List.mem_cons_of_mem _ he, q⟩)
      have young : ∀ o, sI.heap.get? a ≠ some o := fun o q => by
        have z := nb a o q (by rw [hs]; exact off)
        rw [fl1.2.1] at z
        exact nomatch z
      have h0 : X.s_0.heap.get? a = none := by
        cases q : X.s_0.heap.get? a with
        | none => rfl
        | some o =>
          obtain ⟨o', z⟩ := J.base.there a o q (by rw [hex]; exact fun z => nomatch z)
          exact (young _ z).elim
      have offp : ∀ p ∈ X.pn ++ pins, p.1 ≠ a := fun p hp z => young p.2 (by rw [← z]; exact (J.pin p hp).1)
      have S1 := J1.suite ho1 hd1 na nL nF
      refine wpAny_handleBy_cons (codeAny_handlers_test ?_) (fun q => nomatch q)
      have look : PySem.W.Looks (model X.prog X.w) k1 (typeOf (.ref a)) cls := fun _ _ _ _ k q => wpAny_typeOf_ref (k _ _ ho1) (by rw [hz1.1]; exact q)
      have match_ := PySem.W.exm_one (M := model X.prog X.w) J1.kIn look hb1
      have named : ∀ {Q : Value → Shared → Prop} {E : Value → Shared → Prop}, Q c { g with heap := k1 } → wpAny (model X.prog X.w) (X.A.mark (some (.ref a))) (eval (.Name x np) X.env) Q E { g with heap := k1 } := fun {Q E} q => by
        obtain ⟨hg, hdbg, hm | ⟨hm, hv, hnn⟩⟩ := hc
        · exact ld_glob (X := X.suite a ((a, o1) :: (X.pn ++ pins))) S1 hg hm q hdbg
        · exact ld_blt (X := X.suite a ((a, o1) :: (X.pn ++ pins))) S1 hg hm hv q hnn hdbg
      refine named (match_.here ?_)
      cases b with
      | true =>
        refine codeAny_handlers_suite_as (HandSPX.lands_againZ fl1 fun k2 fl2 up2 => ?_)
        have J2 : L2.Inv X pins τ G { g with heap := k2 } := J.landed nb fl2.1 ((up.trans up1).trans up2) eos ag
        obtain ⟨o2, vs2, ho2, hz2, hd2⟩ := fl2.there
        refine store_ok (X := X.suite a ((a, o2) :: (X.pn ++ pins))) (v := .ref a) (J2.suite ho2 hd2 na nL nF) hN hi (.inl hl) rfl (fun g5 S5 => ?_) (.inr hl)
        refine wpAny_mono ((hsu a o2 (X.pn ++ pins)).run [] g5 _ G _ S5 (yes rfl a na)) (fun f g6 hsp => ?_) (fun _ _ z => z.elim)
        cases f with
        | next =>
          obtain ⟨τ6, G6, S6, q6⟩ := hsp
          refine gone_ok (X := X.suite a ((a, o2) :: (X.pn ++ pins))) S6 hN hi hl fun g7 S7 => ?_
          obtain ⟨hget, hn7, _⟩ := S7.pin (a, o2) (List.mem_append_left _ List.mem_cons_self)
          exact ⟨_, _, adopt (S7.unsuite ok) hn7 ⟨o2, vs2, hget, hz2, hd2⟩ h0 nL offp, q6⟩
        | brk => obtain ⟨_, _, _, q6⟩ := hsp; exact q6.elim
        | cont => obtain ⟨_, _, _, q6⟩ := hsp; exact q6.elim
        | ret u => obtain ⟨_, _, _, _, _, q6⟩ := hsp; exact q6.elim
      | false =>
        refine wpAny_handleBy_nil ?_
        obtain ⟨_, _, _, o3, vs3, T, oT, ts3, he, hz, hd, h1, hr⟩ := id fl1
        unfold PySem.passOn
        refine wpAny_bind (wpAny_field he hd h1 ?_)
        rw [if_neg (by simp : ¬ ((Value.ref T == Value.none) = true))]
        have up_ : wpAny (model X.prog X.w) X.A (setFlight (.ref a) X.env.frame) (fun _ g4 => wpAny (model X.prog X.w) X.A (throw (.ref a) : Sem Flow) (SP X pins D) X.xe g4) X.xe { g with heap := k1 } := by
          rw [hf]
          exact HandSPX.setFlight_upZ fl1 fun k2 fl2 up2 => wpAny_throw (tk _ _ ⟨a, B, sI, pins, τ, G, cls, d, rfl, J, nb, (up.trans up1).trans up2, .inr (.inr (by rw [hs]; exact fl2)), na, eos, ag, no rfl⟩)
        first
          | exact wpAny_bind up_
          | exact wpAny_bind (wpAny_pure (wpAny_bind up_)))
    PassesOwn.looking).run [] s σ H D (I.toTry _) wish
  refine wpAny_mono run (fun f g hsp => ?_) (fun _ _ z => z)
  cases f with
  | next => obtain ⟨τ, G, J, q⟩ := hsp; exact wpAny_execs_nil ⟨τ, G, J.ofTry ok, q⟩
  | brk => obtain ⟨τ, G, J, q⟩ := hsp; exact ⟨τ, G, J.ofTry ok, q⟩
  | cont => obtain ⟨τ, G, J, q⟩ := hsp; exact ⟨τ, G, J.ofTry ok, q⟩
  | ret u => obtain ⟨v, τ, G, J, r, q⟩ := hsp; exact ⟨v, τ, G, J.ofTry ok, r, q⟩
end
/-! ### isinstance of what was caught -/
section
variable {X : Cx}
theorem inst_of {a D : Addr} {h : Heap} (x : excAt (.ref D) none a h) : ∃ o, PySem.W.InstAt h a o D none := by
  obtain ⟨⟨oc, od, oda, osl⟩, vs, hg, ⟨h1, h2⟩, h3⟩ := x
  dsimp only at h1 h2 h3
  subst h1 h2 h3
  exact ⟨_, hg, rfl, rfl, trivial⟩
/-- whose class is t: what was caught, or a value of a built-in type -/
inductive KX (K : PySem.W.Frag) (H : Hp) : V → Value → Prop where
  | exc {a D : Addr} (e : H a = some (excO (.ref D) none a)) (c : ExcC K D) : KX K H (.ref a) (.ref D)
  | base {x : V} {t : Value} (h : TyX K H x t) : KX K H x t
theorem kx_of {pins : List (Addr × Obj)} {σ : L2.St} {H : Hp} {s : Shared} {x : V} {u t : Value} (I : L2.Inv X pins σ H s) (rx : RelV x u) (k : KX X.K H x t) : ∃ P : Heap → Prop, PySem.W.KitX X.K u t P ∧ P s.heap ∧ u ≠ .builtin "__main__.__loader__#opaque" := by
  cases k with
  | @exc a D e C =>
    cases (show u = Value.ref a from rx)
    obtain ⟨o, J⟩ := inst_of (show excAt (.ref D) none a s.heap from (I.hok a _ e).1)
    exact ⟨_, PySem.W.handS_kitx_exc C.hg C.hk C.hs C.hd C.ha C.hn C.ht C.hm, J, fun z => nomatch z⟩
  | base h => exact kit_of I rx h
def rIsU (K : PySem.W.Frag) : List V → Hp → VK → Prop := fun xs H Q => ∃ (x c : V) (t u : Value) (b : Bool), xs = [x, c] ∧ ClsV c u ∧ KX K H x t ∧ PySem.W.kitOne K t u = some b ∧ Q (.bl b) H
theorem isuK {K : PySem.W.Frag} (hK : X.K = K) : CallR X (.builtin "isinstance") (rIsU K) := by
  subst hK
  intro pins s σ H xs us Q I r ⟨x, c, t, u, b, ex, hc, k, e, q⟩
  subst ex
  obtain ⟨u1, u2, rfl, r1, r2⟩ := vals2 r
  cases hc.eq r2
  obtain ⟨P, Z, p, hx⟩ := kx_of I r1 k
  exact PySem.W.kia_one Z I.kIn p e hx fun tk => ⟨.bl b, H, I.tok tk, rfl, q⟩
def rIsUT (K : PySem.W.Frag) : List V → Hp → VK → Prop := fun xs H Q => ∃ (x : V) (tp : Addr) (cs : List V) (t : Value) (ws : List Value) (b : Bool), xs = [x, .ref tp] ∧ H tp = some (.tup cs) ∧ Paired ClsV cs ws ∧ KX K H x t ∧ PySem.W.kitAny K t ws = some b ∧ Q (.bl b) H
theorem isutK {K : PySem.W.Frag} (hK : X.K = K) : CallR X (.builtin "isinstance") (rIsUT K) := by
  subst hK
  intro pins s σ H xs us Q I r ⟨x, tp, cs, t, ws, b, ex, hT, hc, k, e, q⟩
  subst ex
  obtain ⟨u1, u2, rfl, r1, r2⟩ := vals2 r
  cases (show u2 = Value.ref tp from r2)
  obtain ⟨P, Z, p, hx⟩ := kx_of I r1 k
  obtain ⟨_, its, rv, ⟨oc, od, dt, sl⟩, h1, h2, n, h3⟩ := (show ObjOk X.prog X.w H s.heap tp (.tup cs) from I.hok tp _ hT)
  have e3 := ClsV.all hc rv
  subst e3
  dsimp only at h2 h3
  subst h2 h3
  exact PySem.W.kia_tup Z I.kIn p h1 e hx fun tk => ⟨.bl b, H, I.tok tk, rfl, q⟩
end
theorem kit_own {K : PySem.W.Frag} {t : Value} {C : Addr} {b : Bool} (hd : PySem.W.hasDictIn K C = true) (ht : PySem.W.typeIn K (.ref C) = some (.type "type")) (hs : PySem.W.subIn K t (.ref C) = some b) (ho : PySem.W.subIn K (.ref C) (.ref C) = some true) : PySem.W.kitOne K t (.ref C) = some b := by
  obtain ⟨cd, hc, _⟩ := PySem.W.any_some hd
  unfold PySem.W.kitOne PySem.W.kitCls
  by_cases z : (t == .ref C) = true
  · rw [if_pos z]
    have z := beq_iff_eq.mp z
    subst z
    exact ho.symm.trans hs
  · rw [if_neg z]
    show (if ((PySem.W.clsIn K C).isSome && PySem.W.typeIn K (.ref C) == some (.type "type")) = true then _ else _) = _
    rw [if_pos (by rw [hc, ht]; rfl)]
    exact hs
theorem kit_blt {K : PySem.W.Frag} {D : Addr} {T : String} {b : Bool} (hm : PySem.W.kitMeta T = true) (hs : PySem.W.subIn K (.ref D) (.type T) = some b) : PySem.W.kitOne K (.ref D) (.type T) = some b := by
  unfold PySem.W.kitOne PySem.W.kitCls
  rw [if_neg (by simp)]
  show (if PySem.W.kitMeta T = true then _ else _) = _
  rw [if_pos hm]
  exact hs
theorem any_no {K : PySem.W.Frag} {t c : Value} {cs : List Value} {r : Bool} (h : PySem.W.kitOne K t c = some false) (hr : PySem.W.kitAny K t cs = some r) : PySem.W.kitAny K t (c :: cs) = some r := kitAny_cons h (fun _ => hr) fun z => nomatch z
theorem any_yes {K : PySem.W.Frag} {t c : Value} {cs : List Value} (h : PySem.W.kitOne K t c = some true) : PySem.W.kitAny K t (c :: cs) = some true := kitAny_cons h (fun z => nomatch z) fun _ => rfl
/-! ### a call within a try -/
def tCallW (sp : Sp) (W : WX) (t : TA) : TE := fun σ H Q => t σ H fun vs H1 => sp vs H1 Q fun cls d H' => W cls d σ H'
theorem pe_callW {X : Cx} {k : Nat} {f : Addr} {fd : FuncData} {ps : List Str} {sp : Sp} {W : WX} {x : Str} {p pos : Pos} {e : Expr} {es : List Expr} {t : TA} (F : FnOk X.prog X.w X.K X.mg X.base (L2.CX X.prog X.w) k f fd ps sp) (hr : Room k X.A) (hg : Gl X x) (hm : X.mg x = some (.ref f)) (hk : PySem.W.keepIn X.K (.ref f) = true) (hb : Binds X.K fd ps [])
    (tk : Takes X W) (ha : PA X (e :: es) t) (hdb : (x == ("__debug__" : Str)) = false := by decide) (he : starEach (e :: es) X.env = (false, eval e X.env) :: starEach es X.env := by rfl) (hpl : (backTo pos (starEach es X.env)).any (·.1) = false := by rfl) :
    PE X (.Call (.Name x p) (e :: es) [] pos) (tCallW sp W t) := by
  refine ⟨fun pins s σ H Q I h => wpAny_Call_Name_kw (ld_glob I hg hm ?_ hdb)⟩
  refine PySem.W.callWith_K (h₀ := X.base) I.ok.mod.kin hk (thn (ha.run pos pins s σ H _ I h) fun us g ⟨vs, G, J, r, q⟩ => ⟨J.kIn, ?_⟩) he hpl
  have hl : us.length = ps.length := by rw [← r.length]; exact F.len _ _ _ _ q
  refine wpAny_call (codeAny_mono (F.run X.A X.stack g G ⟨us, []⟩ us vs Q (fun cls d H' => W cls d σ H') hr J.env0 (by have := hb g us J.kIn (by simpa using hl); simpa using this) r q) fun res g' hq => ?_)
  cases res with
  | error z => exact tk _ _ (XE.of_call J (fun _ _ _ h => h) hq)
  | ok fl =>
    cases fl with
    | ret u => exact J.after hq
    | next => exact hq.elim
    | brk => exact hq.elim
    | cont => exact hq.elim
/-- try: m, except one of those of L: k1, else k0 -/
def tryK {a : Type} (L : List String) (m : M Unit) (k0 : M a) (k1 : String → M a) : M a := match m with
  | .ok _ => k0
  | .error .bad => bad
  | .error (.exc n) => if n ∈ L then k1 n else bad
theorem wp_tryK {b : Type} {L : List String} {m : M Unit} {k0 : M b} {k1 : String → M b} {Q : b → Prop} {E : String → Prop} (h : wp (tryK L m k0 k1) Q E) : wp m (fun _ => wp k0 Q E) fun n => n ∈ L ∧ wp (k1 n) Q E := by
  cases m with
  | ok x => exact h
  | error e =>
    cases e with
    | bad => exact h
    | exc n =>
      by_cases z : n ∈ L
      · have e : tryK L (.error (.exc n)) k0 k1 = k1 n := if_pos z
        rw [e] at h
        exact ⟨z, h⟩
      · have e : tryK L (.error (.exc n)) k0 k1 = bad := if_neg z
        rw [e] at h
        exact h.elim
theorem wp_okE {a : Type} {x : a} {Q : a → Prop} {E : String → Prop} (h : wp (.ok x : M a) Q E) : Q x := h
theorem Ow.exc {Z : Ent} {F H H1 : Hp} {cs : List (Addr × HO)} (O : Ow Z F cs H) (k : Kp [] H H1) : Ow Z F cs H1 where
  g := {
    f := O.g.f
    s := fun b o e => k.k b o (fun z => nomatch z) (O.g.s b o e)
    k := fun b o hb e => k.k b o (fun z => nomatch z) (O.g.k b o hb e)
    t := fun b h => k.t b (O.g.t b h)
    n := O.g.n
    u := fun b xs e => by
      cases q : H b with
      | none =>
        left
        cases z : Z.H b with
        | none => rfl
        | some o => exact (O.g.t b (by rw [z]; exact fun w => nomatch w) q).elim
      | some o =>
        have := k.k b o (fun z => nomatch z) q
        rw [e] at this
        cases this
        exact O.g.u b xs q }
  cf := O.cf
  ch := fun c hc => k.k _ _ (fun z => nomatch z) (O.ch c hc)
  nd := O.nd
  ca := O.ca
  nt := O.nt
theorem mem1 {n a : String} (h : n ∈ [a]) : n = a := List.mem_singleton.mp h
theorem mem2 {n a b : String} (h : n ∈ [a, b]) : n = a ∨ n = b := by simpa using h
/-! ### lists of truths: count, index -/
theorem RL.bools {H : Hp} : ∀ {vs : List V} {xs : List Bool}, RL H vs xs → vs = xs.map V.bl
  | _, [], h => RL.nil_ h
  | _, x :: xs, h => by
    obtain ⟨w, ws, rfl, h1, h2⟩ := RL.cons_ h
    rw [R.bl_ h1, RL.bools h2]
    rfl
def cntB (k : Bool) : List Bool → Int
  | [] => 0
  | y :: r => (if y = k then 1 else 0) + cntB k r
theorem cnt_in (k : Bool) : ∀ bs : List Bool, PySem.Spec.countIn (.bool k) (bs.map PyData.bool) = cntB k bs
  | [] => rfl
  | b :: bs => by
    show (if same (PyData.bool b) (PyData.bool k) = true then (1 : Int) else 0) + PySem.Spec.countIn _ _ = _
    rw [cnt_in k bs]
    cases b <;> cases k <;> rfl
theorem bools_vals : ∀ {bs : List Bool} {its : List Value}, Vals (bs.map V.bl) its → its = bs.map Value.bool
  | [], its, r => by rw [List.map_nil] at r; cases r; rfl
  | b :: bs, its, r => by
    rw [List.map_cons] at r
    cases r with
    | cons h t => cases h; rw [List.map_cons, ← bools_vals t]
theorem reads_bools {hp : Heap} : ∀ bs : List Bool, ReadsAll hp (bs.map Value.bool) (bs.map PyData.bool) []
  | [] => .nil
  | b :: bs => .cons (as := []) (bs := []) (.bool b) (reads_bools bs)
def rCntB (K : PySem.W.Frag) : V → List V → Hp → VK → Prop := fun x xs H Q => ∃ (a : Addr) (bs : List Bool) (k : Bool), x = .ref a ∧ xs = [.bl k] ∧ SqL K H a (bs.map V.bl) ∧ Q (.int (cntB k bs)) H
theorem countBK {X : Cx} {K : PySem.W.Frag} (hK : X.K = K) : MtR X "list.count" (rCntB K) := by
  subst hK
  intro pins s σ H x xs v us Q I rx r ⟨a, bs, k, ex, exs, hs, q⟩
  subst ex exs
  cases rx
  obtain ⟨u, rfl, ru⟩ := vals1 r
  cases ru
  obtain ⟨its, rv, pl, _⟩ := I.list hs
  cases bools_vals rv
  refine count_list_bools (hp := s.heap) (xs := bs.map PyData.bool) pl.isList (reads_bools bs) (List.all_eq_true.mpr fun y hy => ?_) ?_
  · obtain ⟨b, _, rfl⟩ := List.mem_map.mp hy
    rfl
  · rw [cnt_in]
    exact ⟨.int (cntB k bs), H, I.tok _, ⟨_, rfl⟩, q⟩
def ixB (xs : List Bool) (y : Bool) : M Int := if y ∈ xs then .ok ((xs.findIdx (· == y) : Nat) : Int) else bad
theorem wp_ixB {a : Type} {Q : a → Prop} {E : String → Prop} {xs : List Bool} {y : Bool} {k : Int → M a} (h : wp (ixB xs y >>= k) Q E) : ∃ j, xs.findIdx (· == y) = j ∧ xs[j]? = some y ∧ (∀ (m : Nat) z, m < j → xs[m]? = some z → z ≠ y) ∧ wp (k (j : Int)) Q E := by
  unfold ixB at h
  by_cases hm : y ∈ xs
  · rw [if_pos hm] at h
    have hlt : xs.findIdx (· == y) < xs.length := List.findIdx_lt_length_of_exists ⟨y, hm, by simp⟩
    refine ⟨_, rfl, ?_, fun m z hmj hz e => ?_, h⟩
    · rw [List.getElem?_eq_getElem hlt]
      have := List.findIdx_getElem (w := hlt)
      rw [eq_of_beq this]
    · have := List.not_of_lt_findIdx hmj
      obtain ⟨hl, hz⟩ := List.getElem?_eq_some_iff.mp hz
      rw [hz, e] at this
      simp at this
  · rw [if_neg hm] at h; exact h.elim
theorem all_flat_bl : ∀ xs : List Bool, (xs.map V.bl).all flatV = true
  | [] => rfl
  | x :: xs => by rw [List.map_cons, List.all_cons, all_flat_bl xs]; rfl
theorem bl_noeq {xs : List Bool} {y : Bool} {j : Nat} (h : ∀ (m : Nat) z, m < j → xs[m]? = some z → z ≠ y) : ∀ (m : Nat) (z' : V), m < j → (xs.map V.bl)[m]? = some z' → eqV z' (.bl y) = false := fun m z' hm hz => by
  rw [List.getElem?_map] at hz
  cases e : xs[m]? with
  | none => rw [e] at hz; cases hz
  | some z =>
    rw [e] at hz
    have hz : V.bl z = z' := Option.some.inj hz
    subst hz
    have := h m z hm e
    revert this
    cases z <;> cases y <;> intro this <;> first | rfl | exact (this rfl).elim
theorem bl_at {xs : List Bool} {y : Bool} {j : Nat} (h : xs[j]? = some y) : (xs.map V.bl)[j]? = some (.bl y) := by rw [List.getElem?_map, h]; rfl
theorem bl_eq {y : Bool} : eqV (.bl y) (.bl y) = true := by cases y <;> rfl
/-- x in xs, of data that are no scalars -/
def inD {a : Type} [DecidableEq a] (x : a) (xs : List a) : Prop := x ∈ xs
instance {a : Type} [DecidableEq a] (x : a) (xs : List a) : Decidable (inD x xs) := @List.instDecidableMemOfLawfulBEq a instBEqOfDecidableEq _ x xs
theorem iteDx {c A B : Prop} {i : Decidable c} (h1 : c → A) (h2 : ¬ c → B) : if @decide c i = true then A else B := @iteD c A B i h1 h2
theorem iteNx {c A B : Prop} {i : Decidable c} (h1 : c → B) (h2 : ¬ c → A) : if (!@decide c i) = true then A else B := @iteN c A B i h1 h2
theorem sl43 (a b c d : V) : ¬ (HT.sIx [a, b, c, d].length 0 none = 0 ∧ HT.sIx [a, b, c, d].length [a, b, c, d].length (some (3 : Int)) = [a, b, c, d].length) := fun h => absurd h.2 (by show ¬ (HT.sIx 4 4 (some (3 : Int)) = 4); decide)
theorem dgetD_S {β : Type} [Py β] {F H : Hp} {a : Addr} {kvs : List (Key × V)} {i : Str} {xs : List (Str × β)} {z : V} {y : β} (e : H a = some (.dK kvs)) (hr : RD F kvs xs) (hz : R F z y) : ∃ o, DGet H a (.str i) o ∧ R F (o.getD z) ((dGet xs i).getD y) := by
  refine ⟨valV kvs (.inr i), DGet.k (k := .inr i) e, ?_⟩
  rcases hr.get i with ⟨h1, h2⟩ | ⟨u, v, h1, h2, h3⟩
  · rw [h1, show valV kvs (.inr i) = none from h2]; exact hz
  · rw [h1, show valV kvs (.inr i) = some v from h2]; exact h3
end PG

set_option Elab.async false
set_option linter.all false
set_option maxRecDepth 100000
set_option maxHeartbeats 4000000
namespace PG
open PySem PySem.Spec PyProof.Rows L2
open PySem.W (T3 T4 Datum DatumOrd Holds HoldAll EachIs)
/-! ### a list of lists that are all ours: the outer cell and the inner ones, any number of them, behind the other cells -/
abbrev LCV := Addr × List V
def lcV (c : LCV) : Addr × HO := (c.1, .lst c.2)
def llC (p : Addr) (ps : List LCV) : List (Addr × HO) := (p, .lst (ps.map fun c => V.ref c.1)) :: ps.map lcV
/-- the inner lists stand for these -/
inductive LLR {a : Type} [Py a] (F : Hp) : List LCV → List (List a) → Prop
  | nil : LLR F [] []
  | cons {c : LCV} {xs : List a} {ps : List LCV} {p : List (List a)} : RL F c.2 xs → LLR F ps p → LLR F (c :: ps) (xs :: p)
section
variable {a : Type} [Py a] {F F' : Hp}
theorem LLR.mono {ps : List LCV} {p : List (List a)} (h : LLR F ps p) (s : Same F F') : LLR F' ps p := by
  induction h with
  | nil => exact .nil
  | cons h _ ih => exact .cons (h.mono s) ih
theorem LLR.len {ps : List LCV} {p : List (List a)} (h : LLR F ps p) : ps.length = p.length := by
  induction h with
  | nil => rfl
  | cons _ _ ih => rw [List.length_cons, List.length_cons, ih]
theorem LLR.got {ps : List LCV} {p : List (List a)} (h : LLR F ps p) : ∀ {j : Nat} {xs : List a}, p[j]? = some xs → ∃ c, ps[j]? = some c ∧ RL F c.2 xs := by
  induction h with
  | nil => intro j xs e; simp at e
  | @cons c ys ps p h _ ih =>
    intro j xs e
    cases j with
    | zero =>
      have e : ys = xs := Option.some.inj e
      subst e
      exact ⟨c, rfl, h⟩
    | succ j => exact ih e
theorem LLR.set {ps : List LCV} {p : List (List a)} (h : LLR F ps p) {w : List V} {xs : List a} (hw : RL F w xs) (q : Addr) : ∀ j : Nat, LLR F (ps.set j (q, w)) (p.set j xs) := by
  induction h with
  | nil => intro j; exact .nil
  | cons h hs ih =>
    intro j
    cases j with
    | zero => exact .cons hw hs
    | succ j => exact .cons h (ih j)
theorem LLR.snoc {ps : List LCV} {p : List (List a)} (h : LLR F ps p) {w : List V} {xs : List a} (hw : RL F w xs) (q : Addr) : LLR F (ps ++ [(q, w)]) (p ++ [xs]) := by
  induction h with
  | nil => exact .cons hw .nil
  | cons h _ ih => exact .cons h ih
end
section
variable {Z : Ent} {F H : Hp} {S : List (Addr × HO)} {p : Addr} {ps : List LCV} {c : LCV} {j : Nat}
theorem ref_set (hj : ps[j]? = some c) (w : List V) : ((ps.set j (c.1, w)).map fun c => V.ref c.1) = ps.map fun c => V.ref c.1 := by
  refine List.ext_getElem? fun i => ?_
  rw [List.getElem?_map, List.getElem?_map, List.getElem?_set]
  by_cases h : j = i
  · subst h
    rw [if_pos rfl, hj]
    rw [if_pos (List.getElem?_eq_some_iff.mp hj).1]
    rfl
  · rw [if_neg h]
theorem llC_at (hj : ps[j]? = some c) : (S ++ llC p ps)[S.length + 1 + j]? = some (c.1, .lst c.2) := by
  rw [List.getElem?_append_right (by omega)]
  show (llC p ps)[S.length + 1 + j - S.length]? = _
  rw [show S.length + 1 + j - S.length = j + 1 by omega]
  show (ps.map lcV)[j]? = _
  rw [List.getElem?_map, hj]
  rfl
theorem llC_top : (S ++ llC p ps)[S.length]? = some (p, .lst (ps.map fun c => V.ref c.1)) := by
  rw [List.getElem?_append_right (Nat.le_refl _), Nat.sub_self]
  rfl
theorem Ow.llAt (O : Ow Z F (S ++ llC p ps) H) (hj : ps[j]? = some c) : H c.1 = some (.lst c.2) := O.at _ (llC_at hj)
theorem Ow.llTop (O : Ow Z F (S ++ llC p ps) H) : H p = some (.lst (ps.map fun c => V.ref c.1)) := O.at _ llC_top
/-- one of the inner lists becomes w -/
theorem Ow.llSet (O : Ow Z F (S ++ llC p ps) H) (hj : ps[j]? = some c) (w : List V) : Ow Z F (S ++ llC p (ps.set j (c.1, w))) (upd H c.1 (.lst w)) := by
  have z := O.set (S.length + 1 + j) (.lst w) (llC_at hj)
  have e : (S ++ llC p ps).set (S.length + 1 + j) (c.1, .lst w) = S ++ llC p (ps.set j (c.1, w)) := by
    rw [List.set_append_right _ _ (by omega), show S.length + 1 + j - S.length = j + 1 by omega]
    unfold llC
    rw [ref_set hj w, List.set_cons_succ, List.map_set]
    rfl
  rw [e] at z
  exact z
/-- a new inner list goes behind -/
theorem Ow.llPush {q : Addr} {w : List V} (O : Ow Z F ((q, .lst w) :: (S ++ llC p ps)) H) : Ow Z F (S ++ llC p (ps ++ [(q, w)])) (upd H p (.lst ((ps.map fun c => V.ref c.1) ++ [V.ref q]))) := by
  have z := O.set (S.length + 1) (.lst ((ps.map fun c => V.ref c.1) ++ [V.ref q])) (show ((q, HO.lst w) :: (S ++ llC p ps))[S.length + 1]? = some (p, _) from llC_top)
  refine z.perm ?_
  have e : ((q, HO.lst w) :: (S ++ llC p ps)).set (S.length + 1) (p, .lst ((ps.map fun c => V.ref c.1) ++ [V.ref q])) = (q, HO.lst w) :: (S ++ ((p, .lst ((ps.map fun c => V.ref c.1) ++ [V.ref q])) :: ps.map lcV)) := by
    rw [List.set_cons_succ, List.set_append_right _ _ (Nat.le_refl _), Nat.sub_self]
    rfl
  rw [e]
  unfold llC
  rw [List.map_append, List.map_append]
  show ((q, HO.lst w) :: (S ++ ((p, HO.lst ((ps.map fun c => V.ref c.1) ++ [V.ref q])) :: ps.map lcV))).Perm (S ++ ((p, HO.lst ((ps.map fun c => V.ref c.1) ++ [V.ref q])) :: (ps.map lcV ++ [(q, HO.lst w)])))
  have e2 : S ++ ((p, HO.lst ((ps.map fun c => V.ref c.1) ++ [V.ref q])) :: (ps.map lcV ++ [(q, HO.lst w)])) = (S ++ ((p, HO.lst ((ps.map fun c => V.ref c.1) ++ [V.ref q])) :: ps.map lcV)) ++ [(q, HO.lst w)] := by
    rw [List.append_assoc, List.cons_append]
  rw [e2]
  exact (List.perm_append_singleton _ _).symm
/-- an empty one: a new outer list -/
theorem Ow.llNew (O : Ow Z F ((p, .lst []) :: S) H) : Ow Z F (S ++ llC p []) H := O.perm (List.perm_append_singleton _ _).symm
theorem Ow.frzM {A B : List (Addr × HO)} {b : Addr} {o : HO} (O : Ow Z F (A ++ (b, o) :: B) H) (hz : Z.H b = none) : ∃ F', Ow Z F' (A ++ B) H ∧ Same F F' ∧ F' b = some o := by
  have e : (A ++ (b, o) :: B)[A.length]? = some (b, o) := by rw [List.getElem?_append_right (Nat.le_refl _), Nat.sub_self]; rfl
  obtain ⟨F', O', s, h⟩ := O.frzE A.length e hz
  rw [List.eraseIdx_append_of_length_le (Nat.le_refl _), Nat.sub_self] at O'
  exact ⟨F', O', s, h⟩
theorem Ow.frzAll {a : Type} [Py a] : ∀ {ps : List LCV} {F : Hp} {A : List (Addr × HO)} {xs : List (List a)}, Ow Z F (A ++ ps.map lcV) H → (∀ c ∈ ps, Z.H c.1 = none) → LLR F ps xs →
    ∃ F', Ow Z F' A H ∧ Same F F' ∧ RL F' (ps.map fun c => V.ref c.1) xs
  | [], F, A, xs, O, _, r => by
    cases r
    rw [List.map_nil, List.append_nil] at O
    exact ⟨F, O, Same.refl _, RL.nil⟩
  | c :: ps, F, A, xs, O, hz, r => by
    cases r with
    | @cons _ x _ q h1 h2 =>
      obtain ⟨F1, O1, s1, g1⟩ := Ow.frzM (A := A) (B := ps.map lcV) (b := c.1) (o := .lst c.2) O (hz c List.mem_cons_self)
      obtain ⟨F2, O2, s2, r2⟩ := Ow.frzAll O1 (fun d hd => hz d (List.mem_cons_of_mem _ hd)) (h2.mono s1)
      exact ⟨F2, O2, s1.trans s2, RL.cons (R.lst (s2 _ _ g1) ((h1.mono s1).mono s2)) r2⟩
/-- all of it is read alone from now on -/
theorem Ow.llFrz {a : Type} [Py a] {xs : List (List a)} (O : Ow Z F (S ++ llC p ps) H) (hp : Z.H p = none) (hz : ∀ c ∈ ps, Z.H c.1 = none) (r : LLR F ps xs) : ∃ F', Ow Z F' S H ∧ Same F F' ∧ R F' (.ref p) xs := by
  obtain ⟨F1, O1, s1, g1⟩ := Ow.frzM (A := S) (B := ps.map lcV) (b := p) (o := .lst (ps.map fun c => V.ref c.1)) O hp
  obtain ⟨F2, O2, s2, r2⟩ := Ow.frzAll O1 hz (r.mono s1)
  exact ⟨F2, O2, s1.trans s2, R.lst (s2 _ _ g1) r2⟩
end
section
variable {a : Type} [Py a] {F : Hp}
theorem LLR.atI {ps : List LCV} {p : List (List a)} (h : LLR F ps p) {i : Int} {y : List a} (e : L2.atI p i = some y) :
    ∃ j c, L2.atI (ps.map fun c => V.ref c.1) i = some (V.ref c.1) ∧ ps[j]? = some c ∧ RL F c.2 y ∧ ixN p.length i = some j := by
  unfold L2.atI at e
  cases hx : ixN p.length i with
  | none => rw [hx] at e; exact nomatch e
  | some j =>
    rw [hx] at e
    have e : p[j]? = some y := e
    obtain ⟨c, hc, hr⟩ := h.got e
    refine ⟨j, c, ?_, hc, hr, rfl⟩
    unfold L2.atI
    rw [List.length_map, h.len, hx]
    show (ps.map fun c => V.ref c.1)[j]? = _
    rw [List.getElem?_map, hc]
    rfl
theorem zs_set {H : Hp} {ps : List LCV} {c : LCV} {j : Nat} (h : ∀ d ∈ ps, H d.1 = none) (hj : ps[j]? = some c) (w : List V) : ∀ d ∈ ps.set j (c.1, w), H d.1 = none := fun d hd => by
  rcases List.mem_or_eq_of_mem_set hd with hd | hd
  · exact h d hd
  · rw [hd]; exact h c (List.mem_of_getElem? hj)
theorem zs_snoc {H : Hp} {ps : List LCV} {q : Addr} {w : List V} (h : ∀ d ∈ ps, H d.1 = none) (hq : H q = none) : ∀ d ∈ ps ++ [(q, w)], H d.1 = none := fun d hd => by
  rcases List.mem_append.mp hd with hd | hd
  · exact h d hd
  · rw [List.mem_singleton.mp hd]; exact hq
end
/-! ### a list so many times -/
def repL {a : Type} (k : Int) (xs : List a) : List a := (List.replicate k.toNat xs).flatten
theorem RL.rep {a : Type} [Py a] {H : Hp} {vs : List V} {xs : List a} (h : RL H vs xs) (k : Int) : RL H (repL k vs) (repL k xs) := by
  unfold repL
  induction k.toNat with
  | zero => exact RL.nil
  | succ n ih =>
    rw [List.replicate_succ, List.replicate_succ, List.flatten_cons, List.flatten_cons]
    exact RL.app h ih
def CRep (n : Nat) (k : Int) : Prop := -(2 ^ 63) ≤ k ∧ k < 2 ^ 63 ∧ n * k.toNat < 16777216
instance (n : Nat) (k : Int) : Decidable (CRep n k) := by unfold CRep; infer_instance
theorem R.tpN {a : Type} [Py a] {F : Hp} {p : Addr} {vs : List V} {xs : List a} (h : F p = some (.tup vs)) (r : RL F vs xs) : R F (.ref p) (Tp.mk xs) := by
  show Rep F (.ref p) (.tuple (xs.map Py.toD))
  exact .tup h r
/-! ### what is walked, K told outright (for comprehensions within one another) -/
section
variable {X : Cx} {K : PySem.W.Frag} {tg : Expr}
theorem piListK (h : X.K = K) {l : Expr} {tl : TE} (hl : PE X l tl) : PI X tg l (iList K tl) := by rw [← h]; exact pi_list hl
theorem piTupK (h : X.K = K) {l : Expr} {tl : TE} (hl : PE X l tl) : PI X tg l (iTup K tl) := by rw [← h]; exact pi_tup hl
theorem piEnumK (h : X.K = K) {e : Expr} {ta : TA} (hp : PI X tg e (iEnum X.K ta)) : PI X tg e (iEnum K ta) := by rw [← h]; exact hp
theorem piZipK (h : X.K = K) {e : Expr} {ta : TA} (hp : PI X tg e (iZip X.K ta)) : PI X tg e (iZip K ta) := by rw [← h]; exact hp
end
end PG

set_option Elab.async false
set_option linter.all false
set_option maxRecDepth 100000
set_option maxHeartbeats 4000000
namespace PG
open PySem PySem.Spec PyProof.Rows L2
open PySem.W (T3 T4 Datum DatumOrd Holds HoldAll EachIs)
/-! ### one of two kinds -/
inductive Un (a b : Type) where
  | l (x : a)
  | r (y : b)
  deriving DecidableEq
instance {a b : Type} [Py a] [Py b] : Py (Un a b) := ⟨fun
  | .l x => Py.toD x
  | .r y => Py.toD y⟩
section
variable {a b : Type} [Py a] [Py b] {F : Hp} {v : V}
theorem R.un_l {x : a} (h : R F v x) : R F v (Un.l x : Un a b) := h
theorem R.un_r {y : b} (h : R F v y) : R F v (Un.r y : Un a b) := h
end
instance {a b : Type} [Py a] [Py b] [DecidableEq a] [DecidableEq b] [DatumX (a × b)] : DatumX (Un (a × b) Str) := ⟨fun
  | .l x => DatumX.plain x
  | .r y => by show PyData.plain (.str y) = true; simp only [PyData.plain], fun
  | .l x, .l y => by
    show PyData.eqv (Py.toD x) (Py.toD y) = _
    rw [DatumX.eqv x y]
    exact decide_eq_decide.mpr (by rw [Un.l.injEq])
  | .l x, .r y => by
    show PyData.eqv (.tuple [_, _]) (.str y) = _
    simp [PyData.eqv]
  | .r x, .l y => by
    show PyData.eqv (.str x) (.tuple [_, _]) = _
    simp [PyData.eqv]
  | .r x, .r y => by
    show PyData.eqv (.str x) (.str y) = _
    simp only [PyData.eqv]
    rw [PySem.W.beq_decide]
    exact decide_eq_decide.mpr (by rw [Un.r.injEq])⟩
/-! ### is None -/
class NN (a : Type) [Py a] : Prop where
  nn : ∀ x : a, Py.toD x ≠ .none
instance : NN Int := ⟨fun _ h => nomatch h⟩
instance : NN Bool := ⟨fun _ h => nomatch h⟩
instance : NN Str := ⟨fun _ h => nomatch h⟩
instance : NN Sm := ⟨fun x h => by cases x <;> exact nomatch (show PyData.tuple _ = .none from h)⟩
section
variable {a b c d : Type} [Py a] [Py b] [Py c] [Py d]
instance : NN (List a) := ⟨fun _ h => nomatch (show PyData.list _ = .none from h)⟩
instance : NN (a × b) := ⟨fun _ h => nomatch (show PyData.tuple _ = .none from h)⟩
instance : NN (T3 a b c) := ⟨fun _ h => nomatch (show PyData.tuple _ = .none from h)⟩
instance : NN (T4 a b c d) := ⟨fun _ h => nomatch (show PyData.tuple _ = .none from h)⟩
instance : NN (Tp a) := ⟨fun _ h => nomatch (show PyData.tuple _ = .none from h)⟩
theorem rep_non {F : Hp} {x : PyData} (h : Rep F .non x) : x = .none := by cases h; rfl
theorem isN_opt [NN a] {F : Hp} {v : V} {o : Option a} (h : R F v o) : decide (v = .non) = o.isNone := by
  cases o with
  | none =>
    rw [R.non_ h]
    rfl
  | some x =>
    have h : Rep F v (Py.toD x) := h
    refine decide_eq_false fun e => ?_
    rw [e] at h
    exact NN.nn x (rep_non h)
end
theorem dNon_t : decide (V.non = V.non) = true := decide_eq_true rfl
theorem dNon_f {p : Addr} : decide (V.ref p = V.non) = false := decide_eq_false fun h => nomatch h
/-! ### lists: insert, extend, all -/
def insL {a : Type} (xs : List a) (i : Int) (y : a) : List a := xs.take i.toNat ++ [y] ++ xs.drop i.toNat
theorem RL.ins {a : Type} [Py a] {F : Hp} {vs : List V} {xs : List a} (h : RL F vs xs) (i : Int) {v : V} {y : a} (hy : R F v y) : RL F (insL vs i v) (insL xs i y) := RL.app (RL.app (h.take _) (RL.cons hy RL.nil)) (h.drop _)
def CIns (n : Nat) (i : Int) : Prop := n < 16777216 ∧ 0 ≤ i ∧ i < 2 ^ 63
instance (n : Nat) (i : Int) : Decidable (CIns n i) := by unfold CIns; infer_instance
instance (i j : Int) : Decidable (CPow i j) := by unfold CPow; infer_instance
section
variable {X : Cx} {K : PySem.W.Frag}
theorem cr_allK (hc : X.calm = true) (h : X.K = K) : CallR X (.builtin "all") (rAll K) := by rw [← h]; exact cr_all hc
theorem cr_anyK (hc : X.calm = true) (h : X.K = K) : CallR X (.builtin "any") (rAny K) := by rw [← h]; exact cr_any hc
/-- len of what is read -/
def rLenS (K : PySem.W.Frag) : List V → Hp → VK → Prop := fun vs H Q => ∃ (a : Addr) (xs : List V), vs = [V.ref a] ∧ SqL K H a xs ∧ Q (.int xs.length) H
theorem call_lenS (h : X.K = K) : CallR X (.builtin "len") (rLenS K) := fun pins s σ H xs us Q I r hq => by
  obtain ⟨a, ys, rfl, hs, q⟩ := hq
  subst h
  exact call_len pins s σ H _ us Q I r ⟨.ref a, ys.length, rfl, .inl ⟨ys, hs, rfl⟩, q⟩
end
/-! ### try whose suite binds a name: what follows is handed on as the suite's result -/
def tryF {a : Type} (L : List String) (m : M (Unit → M a)) (k1 : String → M a) : M a := match m with
  | .ok f => f ()
  | .error .bad => bad
  | .error (.exc n) => if n ∈ L then k1 n else bad
theorem wp_tryF {b : Type} {L : List String} {m : M (Unit → M b)} {k1 : String → M b} {Q : b → Prop} {E : String → Prop} (h : wp (tryF L m k1) Q E) : wp m (fun f => wp (f ()) Q E) fun n => n ∈ L ∧ wp (k1 n) Q E := by
  cases m with
  | ok x => exact h
  | error e =>
    cases e with
    | bad => exact h
    | exc n =>
      by_cases z : n ∈ L
      · have e : tryF L (.error (.exc n)) k1 = k1 n := if_pos z
        rw [e] at h
        exact ⟨z, h⟩
      · have e : tryF L (.error (.exc n)) k1 = bad := if_neg z
        rw [e] at h
        exact h.elim
/-! ### xs[::-1]; a, b, c = a list of three -/
section
variable {X : Cx} {K : PySem.W.Frag}
theorem pe_revLK (h : X.K = K) {e : Expr} {te : TE} {k : Nat} {p1 p2 p3 pos : Pos} (he : PE X e te) : PE X (.Subscript e (.Slice none none (some (.UnaryOp .USub (.Constant (.int 1) k p1) p2)) p3) pos) (tRevL K te) := by rw [← h]; exact pe_revL he
end
def two3 {a : Type} (xs : List a) : M (a × a × a) := match xs with
  | [x, y, z] => .ok (x, y, z)
  | _ => bad
theorem wp_two3 {a b : Type} {Q : a → Prop} {E : String → Prop} {xs : List b} {k : b × b × b → M a} (h : wp (two3 xs >>= k) Q E) : ∃ x y z, xs = [x, y, z] ∧ wp (k (x, y, z)) Q E := by
  match xs, h with
  | [x, y, z], h => exact ⟨x, y, z, rfl, h⟩
  | [], h => exact h.elim
  | [_], h => exact h.elim
  | [_, _], h => exact h.elim
  | _ :: _ :: _ :: _ :: _, h => exact h.elim
section
variable {X : Cx} {K : PySem.W.Frag}
theorem bmK (h : X.K = K) {c : Expr} {T : String} {r : V → List V → Hp → VK → Prop} {to : TE} {t : TA} (hp : PE X c (tBM X.K T r to t)) : PE X c (tBM K T r to t) := by rw [← h]; exact hp
theorem bm0K (h : X.K = K) {c : Expr} {T : String} {r : V → List V → Hp → VK → Prop} {to : TE} (hp : PE X c (tBM0 X.K T r to)) : PE X c (tBM0 K T r to) := by rw [← h]; exact hp
end
end PG

set_option Elab.async false
set_option linter.all false
set_option maxRecDepth 100000
set_option maxHeartbeats 4000000
namespace PG
open PySem PySem.Spec PyProof.Rows L2
open PySem.W (T3 T4 Datum DatumOrd Holds HoldAll EachIs)
/-! ### lists of our lists: handed back, lent -/
section
variable {Z : Ent} {F F0 H H0 : Hp} {S cs cs0 : List (Addr × HO)} {p : Addr} {ps : List LCV}
theorem llC_nt : ∀ c ∈ llC p ps, noTup c.2 = true := fun c hc => by
  rcases List.mem_cons.mp hc with e | hc
  · rw [e]; rfl
  · obtain ⟨d, _, e⟩ := List.mem_map.mp hc
    rw [← e]; rfl
theorem Ow.llOut (O : Ow Z F (S ++ llC p ps) H) (hp : Z.H p = none) (hz : ∀ c ∈ ps, Z.H c.1 = none) :
    (∀ c ∈ llC p ps, Z.H c.1 = none) ∧ (∀ c ∈ llC p ps, F c.1 = none ∧ H c.1 = some c.2) ∧ ((llC p ps).map (·.1)).Nodup := by
  refine ⟨fun c hc => ?_, fun c hc => ⟨O.cf c (List.mem_append_right _ hc), O.ch c (List.mem_append_right _ hc)⟩, ?_⟩
  · rcases List.mem_cons.mp hc with e | hc
    · rw [e]; exact hp
    · obtain ⟨d, hd, e⟩ := List.mem_map.mp hc
      rw [← e]; exact hz d hd
  · have := O.nd
    rw [List.map_append] at this
    exact (List.nodup_append.mp this).2.1
theorem Ow.llGot (O0 : Ow Z F0 cs0 H0) (O : Ow Z F cs H) (hk : cs.map (·.1) = cs0.map (·.1)) (hn : ∀ c ∈ llC p ps, H0 c.1 = none) (hf : ∀ c ∈ llC p ps, F c.1 = none ∧ H c.1 = some c.2) (nd : ((llC p ps).map (·.1)).Nodup) :
    Ow Z F (cs ++ llC p ps) H where
  g := O.g
  cf := fun c hc => by
    rcases List.mem_append.mp hc with hc | hc
    · exact O.cf c hc
    · exact (hf c hc).1
  ch := fun c hc => by
    rcases List.mem_append.mp hc with hc | hc
    · exact O.ch c hc
    · exact (hf c hc).2
  nd := by
    rw [List.map_append]
    refine List.nodup_append.mpr ⟨O.nd, nd, fun x hx y hy e => ?_⟩
    obtain ⟨d, hd, e2⟩ := List.mem_map.mp hy
    rw [hk] at hx
    obtain ⟨c0, hc0, e3⟩ := List.mem_map.mp hx
    have h1 := O0.ch c0 hc0
    rw [e3, e, ← e2, hn d hd] at h1
    exact nomatch h1
  ca := fun c hc => by
    rcases List.mem_append.mp hc with hc | hc
    · exact O.ca c hc
    · exact .inr (O0.was (hn c hc))
  nt := fun c hc => by
    rcases List.mem_append.mp hc with hc | hc
    · exact O.nt c hc
    · exact llC_nt c hc
theorem Ow.llWas (O0 : Ow Z F0 cs0 H0) (hn : ∀ c ∈ llC p ps, H0 c.1 = none) : Z.H p = none ∧ ∀ c ∈ ps, Z.H c.1 = none :=
  ⟨O0.was (hn (p, _) List.mem_cons_self), fun c hc => O0.was (hn (lcV c) (List.mem_cons_of_mem _ (List.mem_map.mpr ⟨c, hc, rfl⟩)))⟩
theorem inA_ll : ∀ b ∈ (llC p ps).map (·.1), ∃ o, (b, o) ∈ S ++ llC p ps := fun b hb => by
  obtain ⟨c, hc, e⟩ := List.mem_map.mp hb
  exact ⟨c.2, List.mem_append_right _ (by rw [← e]; exact hc)⟩
theorem inA_app {as bs : List Addr} (h1 : ∀ b ∈ as, ∃ o, (b, o) ∈ cs) (h2 : ∀ b ∈ bs, ∃ o, (b, o) ∈ cs) : ∀ b ∈ as ++ bs, ∃ o, (b, o) ∈ cs := fun b hb => by
  rcases List.mem_append.mp hb with hb | hb
  · exact h1 b hb
  · exact h2 b hb
theorem LLR.of_at {a : Type} [Py a] : ∀ {ps : List LCV} {xs : List (List a)}, LLR F ps xs → (∀ c ∈ ps, F c.1 = some (.lst c.2)) → RL F (ps.map fun c => V.ref c.1) xs
  | [], xs, h, _ => by cases h; exact RL.nil
  | c :: ps, xs, h, hat => by
    cases h with
    | cons h1 h2 => exact RL.cons (R.lst (hat c List.mem_cons_self) h1) (LLR.of_at h2 fun d hd => hat d (List.mem_cons_of_mem _ hd))
theorem Ow.llLend {a : Type} [Py a] {as : List Addr} {xs : List (List a)} (O : Ow Z F (S ++ llC p ps) H) (hs : Same F (lendF as F H)) (hin : ∀ c ∈ llC p ps, c.1 ∈ as) (r : LLR F ps xs) : R (lendF as F H) (.ref p) xs := by
  have at_ : ∀ c ∈ llC p ps, lendF as F H c.1 = some c.2 := fun c hc => (lendF_at (hin c hc)).trans (O.ch c (List.mem_append_right _ hc))
  exact R.lst (at_ (p, _) List.mem_cons_self) ((r.mono hs).of_at fun c hc => at_ (lcV c) (List.mem_cons_of_mem _ (List.mem_map.mpr ⟨c, hc, rfl⟩)))
end
/-! ### rows that are never reached -/
def tNever : TS := fun _ _ _ => False
def eNever : TE := fun _ _ _ => False
def uNever : TT := fun _ _ _ => False
theorem psNever {X : Cx} {st : Stmt} : PS X st tNever := ⟨fun _ _ _ _ _ _ h => h.elim⟩
theorem peNever {X : Cx} {e : Expr} : PE X e eNever := ⟨fun _ _ _ _ _ _ h => h.elim⟩
theorem ptNever {X : Cx} {e : Expr} : PT X e uNever := ⟨fun _ _ _ _ _ _ h => h.elim⟩
theorem pwNever {X : Cx} {e : Expr} : PW X e uNever := ⟨fun _ _ _ _ _ _ _ h => h.elim⟩
/-! ### lists in which nothing is None -/
def some1 {a : Type} (xs : List (Option a)) : Option (List a) := xs.mapM id
def some2 {a : Type} (xs : List (List (Option a))) : Option (List (List a)) := xs.mapM some1
section
variable {a : Type} [Py a] {F : Hp} {v : V}
theorem mapM_cons_some {b c : Type} {f : b → Option c} {x : b} {xs : List b} {ys : List c} (h : (x :: xs).mapM f = some ys) : ∃ y zs, f x = some y ∧ xs.mapM f = some zs ∧ ys = y :: zs := by
  rw [List.mapM_cons] at h
  cases e : f x with
  | none => rw [e] at h; exact nomatch h
  | some y =>
    rw [e] at h
    cases e2 : xs.mapM f with
    | none =>
      have h : ((xs.mapM f) >>= fun bs => pure (y :: bs)) = some ys := h
      rw [e2] at h; exact nomatch h
    | some zs =>
      have h : ((xs.mapM f) >>= fun bs => pure (y :: bs)) = some ys := h
      rw [e2] at h
      exact ⟨y, zs, rfl, rfl, (Option.some.inj h).symm⟩
theorem mapM_nil_some {b c : Type} {f : b → Option c} {ys : List c} (h : ([] : List b).mapM f = some ys) : ys = [] := (Option.some.inj h).symm
theorem RL.some1 : ∀ {xs : List (Option a)} {vs : List V} {ys : List a}, RL F vs xs → xs.mapM id = some ys → RL F vs ys
  | [], vs, ys, h, e => by
    rw [mapM_nil_some e, RL.nil_ h]
    exact RL.nil
  | x :: xs, vs, ys, h, e => by
    obtain ⟨w, ws, rfl, h1, h2⟩ := RL.cons_ h
    obtain ⟨y, zs, e1, e2, e3⟩ := mapM_cons_some e
    rw [e3]
    have e1 : x = some y := e1
    rw [e1] at h1
    exact RL.cons (R.jst_ h1) (RL.some1 h2 e2)
theorem R.some1 {xs : List (Option a)} {ys : List a} (h : R F v xs) (e : PG.some1 xs = some ys) : R F v ys := by
  obtain ⟨p, vs, rfl, hp, hr⟩ := R.lst_ h
  exact R.lst hp (RL.some1 hr e)
theorem RL.some2 : ∀ {xs : List (List (Option a))} {vs : List V} {ys : List (List a)}, RL F vs xs → xs.mapM PG.some1 = some ys → RL F vs ys
  | [], vs, ys, h, e => by
    rw [mapM_nil_some e, RL.nil_ h]
    exact RL.nil
  | x :: xs, vs, ys, h, e => by
    obtain ⟨w, ws, rfl, h1, h2⟩ := RL.cons_ h
    obtain ⟨y, zs, e1, e2, e3⟩ := mapM_cons_some e
    rw [e3]
    exact RL.cons (R.some1 h1 e1) (RL.some2 h2 e2)
theorem R.some2 {xs : List (List (Option a))} {ys : List (List a)} (h : R F v xs) (e : PG.some2 xs = some ys) : R F v ys := by
  obtain ⟨p, vs, rfl, hp, hr⟩ := R.lst_ h
  exact R.lst hp (RL.some2 hr e)
end
/-! ### products one factor of which is small -/
def CMulX (i j : Int) : Prop := CMul i j ∨ CMulW i j
instance (i j : Int) : Decidable (CMulX i j) := by unfold CMulX CMul CMulW; infer_instance
theorem op_mulX {X : Cx} : OpR X (binaryOp .Mult) (rI CMulX fun i j => .int (i * j)) := opI fun _ _ _ _ _ _ _ hc q => mul_int q (by
  rcases hc with h | h
  · exact h.ok
  · exact h.ok)
end PG

set_option Elab.async false
set_option linter.all false
set_option maxRecDepth 100000
set_option maxHeartbeats 4000000
namespace PG
open PySem PySem.Spec PyProof.Rows L2
open PySem.W (T3 T4 Datum DatumOrd Holds HoldAll EachIs)
/-! ### an except clause whose suite asks of the exception: it is tracked within the suite -/
section
variable {X : Cx} {pins pn pn' : List (Addr × Obj)} {σ : L2.St} {H : Hp} {s : Shared} {a : Addr} {q : Addr × Obj}
theorem lessPin (I : L2.Inv (X.suite a (q :: pn)) pn' σ H s) (ok : X.Ok) : L2.Inv (X.suite a pn) pn' σ H s :=
  ⟨ok.suite _ _, I.os, I.bare, I.base, I.loc, I.cell, I.free, I.freeC, fun p hp => I.pin p (List.mem_cons_of_mem _ hp), I.hok, I.len⟩
theorem unsuite0 (I : L2.Inv (X.suite a (X.pn ++ pins)) [] σ H s) (ok : X.Ok) : L2.Inv X pins σ H s :=
  ⟨ok, I.os, I.bare, I.base, I.loc, I.cell, I.free, I.freeC, fun p hp => I.pin p (List.mem_append_left _ hp), I.hok, I.len⟩
end
/-- what such a clause wishes -/
def wTell (K : PySem.W.Frag) (c : Value) (i : Nat) (ts : Addr → TS) (out : WX) (D : Ends) : WX := fun cls d σ H =>
  ∃ b, PySem.W.exmOne K cls c = some b ∧ (b = true → ∀ a, H a = none → ts a { nx := fun σ' H' => D.nx (σ'.set i none) H', rt := fun _ _ => False, bk := fun _ _ => False, ct := fun _ _ => False } (σ.set i (some (.ref a))) (upd H a (excO cls d a))) ∧ (b = false → out cls d σ H)
section
variable {X : Cx} {x n : Str} {c : Value} {i : Nat} {body suite : List Stmt} {b1 : Stmt} {np q1 q2 : Pos} {tb : WX → TS} {ts : Addr → TS} {out : WX}
theorem ps_try_tell (hs : X.stack = X.env :: X.outer) (hf : X.env.frame = some X.env.locals) (hex : X.ex = []) (hN : X.N.Nodup) (hi : X.N[i]? = some n) (hl : X.env.kindOf n = some .local) (hc : Names X x c) (tk : Takes X out)
    (hb : ∀ (W : WX) (pn : List (Addr × Obj)) (xe : Value → Shared → Prop), Takes (X.tr pn xe) W → PassesOwn (model X.prog X.w) X.A X.env xe → PSs (X.tr pn xe) body (tb W))
    (hsu : ∀ (a : Addr) (pn : List (Addr × Obj)), PSs (X.suite a pn) (b1 :: suite) (ts a)) :
    PS X (.Try body [.ExceptHandler (some (.Name x np)) (some n) (b1 :: suite) q1] [] [] q2) (fun D σ H => tb (wTell X.K c i ts out D) D σ H) := by
  refine ⟨fun pins s σ H D I wish => wpAny_Try_except ?_⟩
  have ok := I.ok
  have hfr : X.A.frames = some (X.env :: X.outer) := ok.frames.trans (by rw [hs])
  have run := (hb (wTell X.K c i ts out D) (X.pn ++ pins) (fun e g1 => wpAny (model X.prog X.w) X.A (noteFrame e X.env) (fun _ g2 => wpAny (model X.prog X.w) X.A (setFlight e none)
    (fun _ g3 => wpAny (model X.prog X.w) X.A (handleBy e X.env [.ExceptHandler (some (.Name x np)) (some n) (b1 :: suite) q1]) (SP X pins D) X.xe g3) X.xe g2) X.xe g1)
    (fun u g ⟨a, B, sI, ps, τ, G, cls, d, eu, J0, nb, up, sky, na, eos, ag, b, hb1, yes, no⟩ => by
      subst eu
      have J : L2.Inv X pins τ G sI := J0.ofTry ok
      show wpAny (model X.prog X.w) X.A (noteFrame (.ref a) X.env) _ _ _
      refine Sky.land Zc.steady hfr hf (show Sky B (X.env :: X.outer) a (Zc cls d) X.env.locals g.heap by rw [← hs]; exact sky) fun k1 fl1 up1 => ?_
      have J1 : L2.Inv X pins τ G { g with heap := k1 } := J.landed nb fl1.1 (up.trans up1) eos ag
      obtain ⟨o1, vs1, ho1, hz1, hd1⟩ := fl1.there
      have off : a ∉ frs (X.env :: X.outer) := fun hm => by
        obtain ⟨_, o', eo, hnf⟩ := fl1.2.2.1.mem hm
        rw [ho1] at eo
        cases eo
        exact hnf _ hd1
      have nL : a ≠ X.env.locals := fun z => off (List.mem_filterMap.mpr ⟨X.env, List.mem_cons_self, by rw [hf, z]⟩)
      have nF : a ∉ X.fs := fun hm => by
        obtain ⟨e, he, q⟩ := List.mem_filterMap.mp hm
        exact off (List.mem_filterMap.mpr ⟨e, List.mem_cons_of_mem _ he, q⟩)
      have young : ∀ o, sI.heap.get? a ≠ some o := fun o q => by
        have z := nb a o q (by rw [hs]; exact off)
        rw [fl1.2.1] at z
        exact nomatch z
      have h0 : X.s_0.heap.get? a = none := by
        cases q : X.s_0.heap.get? a with
        | none => rfl
        | some o =>
          obtain ⟨o', z⟩ := J.base.there a o q (by rw [hex]; exact fun z => nomatch z)
          exact (young _ z).elim
      have offp : ∀ p ∈ X.pn ++ pins, p.1 ≠ a := fun p hp z => young p.2 (by rw [← z]; exact (J.pin p hp).1)
      have S1 := J1.suite ho1 hd1 na nL nF
      refine wpAny_handleBy_cons (codeAny_handlers_test ?_) (fun q => nomatch q)
      have look : PySem.W.Looks (model X.prog X.w) k1 (typeOf (.ref a)) cls := fun _ _ _ _ k q => wpAny_typeOf_ref (k _ _ ho1) (by rw [hz1.1]; exact q)
      have match_ := PySem.W.exm_one (M := model X.prog X.w) J1.kIn look hb1
      have named : ∀ {Q : Value → Shared → Prop} {E : Value → Shared → Prop}, Q c { g with heap := k1 } → wpAny (model X.prog X.w) (X.A.mark (some (.ref a))) (eval (.Name x np) X.env) Q E { g with heap := k1 } := fun {Q E} q => by
        obtain ⟨hg, hdbg, hm | ⟨hm, hv, hnn⟩⟩ := hc
        · exact ld_glob (X := X.suite a ((a, o1) :: (X.pn ++ pins))) S1 hg hm q hdbg
        · exact ld_blt (X := X.suite a ((a, o1) :: (X.pn ++ pins))) S1 hg hm hv q hnn hdbg
      refine named (match_.here ?_)
      cases b with
      | true =>
        refine codeAny_handlers_suite_as (HandSPX.lands_againZ fl1 fun k2 fl2 up2 => ?_)
        have J2 : L2.Inv X pins τ G { g with heap := k2 } := J.landed nb fl2.1 ((up.trans up1).trans up2) eos ag
        obtain ⟨o2, vs2, ho2, hz2, hd2⟩ := fl2.there
        refine store_ok (X := X.suite a ((a, o2) :: (X.pn ++ pins))) (v := .ref a) (J2.suite ho2 hd2 na nL nF) hN hi (.inl hl) rfl (fun g5 S5 => ?_) (.inr hl)
        obtain ⟨hget5, _⟩ := S5.pin (a, o2) (List.mem_append_left _ List.mem_cons_self)
        have A5 := adopt (X := X.suite a (X.pn ++ pins)) (lessPin S5 ok) na ⟨o2, vs2, hget5, hz2, hd2⟩ h0 nL (fun p hp => offp p (by rw [List.append_nil] at hp; exact hp))
        refine wpAny_mono ((hsu a (X.pn ++ pins)).run [] g5 _ _ _ A5 (yes rfl a na)) (fun f g6 hsp => ?_) (fun _ _ z => z.elim)
        cases f with
        | next =>
          obtain ⟨τ6, G6, S6, q6⟩ := hsp
          exact gone_ok (X := X.suite a (X.pn ++ pins)) S6 hN hi hl fun g7 S7 => ⟨_, _, unsuite0 S7 ok, q6⟩
        | brk => obtain ⟨_, _, _, q6⟩ := hsp; exact q6.elim
        | cont => obtain ⟨_, _, _, q6⟩ := hsp; exact q6.elim
        | ret u => obtain ⟨_, _, _, _, _, q6⟩ := hsp; exact q6.elim
      | false =>
        refine wpAny_handleBy_nil ?_
        obtain ⟨_, _, _, o3, vs3, T, oT, ts3, he, hz, hd, h1, hr⟩ := id fl1
        unfold PySem.passOn
        refine wpAny_bind (wpAny_field he hd h1 ?_)
        rw [if_neg (by simp : ¬ ((Value.ref T == Value.none) = true))]
        have up_ : wpAny (model X.prog X.w) X.A (setFlight (.ref a) X.env.frame) (fun _ g4 => wpAny (model X.prog X.w) X.A (throw (.ref a) : Sem Flow) (SP X pins D) X.xe g4) X.xe { g with heap := k1 } := by
          rw [hf]
          exact HandSPX.setFlight_upZ fl1 fun k2 fl2 up2 => wpAny_throw (tk _ _ ⟨a, B, sI, pins, τ, G, cls, d, rfl, J, nb, (up.trans up1).trans up2, .inr (.inr (by rw [hs]; exact fl2)), na, eos, ag, no rfl⟩)
        first
          | exact wpAny_bind up_
          | exact wpAny_bind (wpAny_pure (wpAny_bind up_)))
    PassesOwn.looking).run [] s σ H D (I.toTry _) wish
  refine wpAny_mono run (fun f g hsp => ?_) (fun _ _ z => z)
  cases f with
  | next => obtain ⟨τ, G, J, q⟩ := hsp; exact wpAny_execs_nil ⟨τ, G, J.ofTry ok, q⟩
  | brk => obtain ⟨τ, G, J, q⟩ := hsp; exact ⟨τ, G, J.ofTry ok, q⟩
  | cont => obtain ⟨τ, G, J, q⟩ := hsp; exact ⟨τ, G, J.ofTry ok, q⟩
  | ret u => obtain ⟨v, τ, G, J, r, q⟩ := hsp; exact ⟨v, τ, G, J.ofTry ok, r, q⟩
end
end PG

set_option Elab.async false
set_option linter.all false
set_option maxRecDepth 100000
set_option maxHeartbeats 4000000
namespace PG
open PySem PySem.Spec PyProof.Rows L2
open PySem.W (T3 T4 Datum DatumOrd Holds HoldAll EachIs)
/-! ### xs.remove(y) of a list of data, y in it -/
/-- where y stands in xs -/
def ixL {a : Type} [DecidableEq a] (xs : List a) (y : a) : Nat := xs.idxOf y
def remL {a : Type} [DecidableEq a] (xs : List a) (y : a) : List a := xs.take (ixL xs y) ++ xs.drop (ixL xs y + 1)
section
variable {a : Type} [Py a] [DecidableEq a] [Datum a] [IsD a]
theorem RL.rem {F : Hp} {vs : List V} {xs : List a} (h : RL F vs xs) (y : a) : RL F (vs.take (ixL xs y) ++ vs.drop (ixL xs y + 1)) (remL xs y) := RL.app (h.take _) (h.drop _)
omit [Py a] [IsD a] in
theorem place_of : ∀ {xs : List a} {y : a}, y ∈ xs → SeqAt.dataPlace (xs.map Datum.toD) (Datum.toD y) = some (xs.idxOf y)
  | [], _, h => nomatch h
  | x :: xs, y, h => by
    unfold SeqAt.dataPlace
    rw [List.map_cons, List.findIdx?_cons, Datum.eqv, List.idxOf_cons]
    by_cases c : x = y
    · rw [if_pos (decide_eq_true c)]
      rw [show (x == y) = true from by rw [c]; exact beq_self_eq_true y]
      rfl
    · rw [if_neg (fun z => c (of_decide_eq_true z))]
      rw [show (x == y) = false from beq_eq_false_iff_ne.mpr c]
      have hm : y ∈ xs := by
        rcases List.mem_cons.mp h with e | e
        · exact (c e.symm).elim
        · exact e
      have ih := place_of hm
      unfold SeqAt.dataPlace at ih
      rw [ih]
      rfl
end
def rRemT (a : Type) [Py a] [DecidableEq a] : V → List V → Hp → VK → Prop := fun x xs H Q => ∃ (l : Addr) (vs : List V) (ys : List a) (y : V) (p : a), x = .ref l ∧ xs = [y] ∧ H l = some (.lst vs) ∧ RL H vs ys ∧ R H y p ∧ p ∈ ys ∧ Q .non (upd H l (.lst (vs.take (ixL ys p) ++ vs.drop (ixL ys p + 1))))
section
variable {X : Cx} (a : Type) [Py a] [DecidableEq a] [Datum a] [IsD a]
theorem mt_removeT (hu : X.A.units + 64 < cLine) (hd : Datum.depth a ≤ 60 := by decide) : MtR X "list.remove" (rRemT a) := by
  intro pins s σ H x xs v us Q I rx rxs h
  obtain ⟨l, vs, ys, y, p, rfl, rfl, hH, hl, hp, hm, q⟩ := h
  cases rx
  obtain ⟨u, rfl, ru⟩ := rxs.one
  obtain ⟨z, its, n, r, hlen, e⟩ := I.lstM hH
  obtain ⟨as, rs⟩ := hl.holds I r
  obtain ⟨bs, rx⟩ := hp.holds I ru
  refine SeqAt.remove_list_data (vs := its.toArray) ⟨_, e, rfl, n, rfl⟩ (by simpa using rs) rx (PySem.W.plainAll_map ys) (Datum.plain p) (PySem.W.room_items (PySem.W.depthAll_map ys) (by omega)) (place_of hm) (by rw [List.size_toArray]; omega) ?_
  refine ⟨.non, _, I.lset (its' := its.take (ixL ys p) ++ its.drop (ixL ys p + 1)) hH e ?_ ((r.take _).append (r.drop _)) ?_, rfl, q⟩
  · show its.toArray.eraseIdxIfInBounds (ixL ys p) = _
    rw [List.eraseIdxIfInBounds_toArray, List.eraseIdx_eq_take_drop_succ]
  · rw [List.length_append, List.length_take, List.length_drop]
    omega
end
end PG

set_option Elab.async false
set_option linter.all false
set_option maxRecDepth 100000
set_option maxHeartbeats 4000000
/-! Plain mathematics over the monad M: no program in sight. -/
namespace PG
open PySem L2
open PySem.W (T3 T4 Datum DatumOrd)
section
variable {a b s i : Type}
theorem ok_b (x : a) (k : a → M b) : (Except.ok x >>= k) = k x := rfl
theorem okP_b (x : a) (k : a → M b) : ((Except.ok x : M a) >>= k) = k x := rfl
theorem ret_b (x : a) (k : a → M b) : (ret x >>= k) = k x := rfl
theorem chk_ok {c : Prop} [Decidable c] (h : c) : chk c = .ok () := by unfold chk; rw [if_pos h]
theorem chk_b {c : Prop} [Decidable c] (h : c) (k : Unit → M b) : (chk c >>= k) = k () := by rw [chk_ok h]; rfl
theorem opt_b {o : Option a} {x : a} (h : o = some x) (k : a → M b) : (opt o >>= k) = k x := by rw [h]; rfl
theorem bind_ok {m : M a} {x : a} (h : m = .ok x) (k : a → M b) : (m >>= k) = k x := by rw [h]; rfl
theorem appL_ok {xs : List a} {y : a} (h : xs.length < 16777216) : appL xs y = .ok (xs ++ [y]) := by unfold appL; rw [if_pos h]
theorem ixN_nat {n : Nat} {j : Int} (h0 : 0 ≤ j) (h : j < n) : ixN n j = some j.toNat := by unfold ixN; rw [if_pos h0, if_pos h]
theorem atI_of {xs : List a} {j : Int} {x : a} (h0 : 0 ≤ j) (h : xs[j.toNat]? = some x) : L2.atI xs j = some x := by
  have hl := (List.getElem?_eq_some_iff.mp h).1
  unfold L2.atI
  rw [ixN_nat h0 (by omega)]
  exact h
theorem atI_some {xs : List a} {j : Int} (h0 : 0 ≤ j) (h : j < xs.length) : ∃ x, L2.atI xs j = some x ∧ xs[j.toNat]? = some x := by
  have hl : j.toNat < xs.length := by omega
  exact ⟨xs[j.toNat], atI_of h0 (List.getElem?_eq_getElem hl), List.getElem?_eq_getElem hl⟩
theorem setI_ok {xs : List a} {j : Int} {y : a} (h0 : 0 ≤ j) (h : j < xs.length) : setI xs j y = .ok (xs.set j.toNat y) := by unfold setI; rw [ixN_nat h0 h]
theorem popI_ok {xs : List a} {j : Int} {y : a} (h0 : 0 ≤ j) (h : xs[j.toNat]? = some y) (hl : xs.length < 16777216) : popI xs j = .ok (y, xs.eraseIdx j.toNat) := by
  have h1 := (List.getElem?_eq_some_iff.mp h).1
  unfold popI
  rw [if_pos hl, ixN_nat h0 (by omega)]
  show (match xs[j.toNat]? with
    | some y => (Except.ok (y, xs.eraseIdx j.toNat) : M _)
    | none => bad) = _
  rw [h]
/-- loops by an invariant over the items gone through -/
theorem loopN_inv {f : i → s → M s} (P : List i → s → Prop) : ∀ {xs pre : List i} {x : s}, P pre x → (∀ pre y ys x, xs ++ [] = xs → P pre x → (∃ q, q ++ y :: ys = pre ++ y :: ys) → ∃ x', f y x = .ok x' ∧ P (pre ++ [y]) x') → ∃ x', loopN f xs x = .ok x' ∧ P (pre ++ xs) x' := by
  intro xs
  induction xs with
  | nil => intro pre x h _; exact ⟨x, rfl, by rw [List.append_nil]; exact h⟩
  | cons y ys ih =>
    intro pre x h hs
    obtain ⟨x1, e1, h1⟩ := hs pre y ys x (List.append_nil _) h ⟨pre, rfl⟩
    obtain ⟨x2, e2, h2⟩ := ih (pre := pre ++ [y]) h1 fun pre y ys x _ hp hq => hs pre y ys x (List.append_nil _) hp hq
    refine ⟨x2, ?_, by rw [List.append_assoc] at h2; exact h2⟩
    show (f y x >>= fun x' => loopN f ys x') = _
    rw [e1]
    exact e2
/-- .. with what is known of the items -/
theorem loopN_run {f : i → s → M s} {all : List i} (P : List i → s → Prop) {x : s} (h : P [] x) (hs : ∀ pre y post x, all = pre ++ y :: post → P pre x → ∃ x', f y x = .ok x' ∧ P (pre ++ [y]) x') : ∃ x', loopN f all x = .ok x' ∧ P all x' := by
  have go : ∀ (xs pre : List i) (x : s), all = pre ++ xs → P pre x → ∃ x', loopN f xs x = .ok x' ∧ P (pre ++ xs) x' := by
    intro xs
    induction xs with
    | nil => intro pre x _ h; exact ⟨x, rfl, by rw [List.append_nil]; exact h⟩
    | cons y ys ih =>
      intro pre x e h
      obtain ⟨x1, e1, h1⟩ := hs pre y ys x e h
      obtain ⟨x2, e2, h2⟩ := ih (pre ++ [y]) x1 (by rw [List.append_assoc]; exact e) h1
      refine ⟨x2, ?_, by rw [List.append_assoc] at h2; exact h2⟩
      show (f y x >>= fun x' => loopN f ys x') = _
      rw [e1]
      exact e2
  exact go all [] x rfl h
/-- a loop that goes on at each item -/
theorem loopM_run {r : Type} {f : i → s → M (Fl s r)} {all : List i} (P : List i → s → Prop) {x : s} (h : P [] x) (hs : ∀ pre y post x, all = pre ++ y :: post → P pre x → ∃ x', f y x = .ok (.nx x') ∧ P (pre ++ [y]) x') : ∃ x', loopM f all x = .ok (.nx x') ∧ P all x' := by
  have go : ∀ (xs pre : List i) (x : s), all = pre ++ xs → P pre x → ∃ x', loopM f xs x = .ok (.nx x') ∧ P (pre ++ xs) x' := by
    intro xs
    induction xs with
    | nil => intro pre x _ h; exact ⟨x, rfl, by rw [List.append_nil]; exact h⟩
    | cons y ys ih =>
      intro pre x e h
      obtain ⟨x1, e1, h1⟩ := hs pre y ys x e h
      obtain ⟨x2, e2, h2⟩ := ih (pre ++ [y]) x1 (by rw [List.append_assoc]; exact e) h1
      refine ⟨x2, ?_, by rw [List.append_assoc] at h2; exact h2⟩
      show (f y x >>= fun q => match q with
        | .nx x' => loopM f ys x'
        | .rt z => .ok (.rt z)) = _
      rw [e1]
      exact e2
  exact go all [] x rfl h
/-- .. that has no state -/
theorem loopM_all {r : Type} {f : i → Unit → M (Fl Unit r)} {all : List i} (hs : ∀ y ∈ all, f y () = .ok (.nx ())) : loopM f all () = .ok (.nx ()) := by
  obtain ⟨x, e, _⟩ := loopM_run (f := f) (all := all) (fun _ _ => True) (x := ()) trivial fun pre y post x e _ => ⟨(), by cases x; exact hs y (by rw [e]; simp), trivial⟩
  exact e
theorem compX_run {c : Type} {f : i → s → M (Option c × s)} {all : List i} (P : List i → List c → s → Prop) {x : s} (h : P [] [] x)
    (hs : ∀ pre y post acc x, all = pre ++ y :: post → P pre acc x → ∃ o x', f y x = .ok (o, x') ∧ P (pre ++ [y]) (match o with
      | some z => acc ++ [z]
      | none => acc) x') : ∃ acc x', compX f all [] x = .ok (acc, x') ∧ P all acc x' := by
  have go : ∀ (xs pre : List i) (acc : List c) (x : s), all = pre ++ xs → P pre acc x → ∃ acc' x', compX f xs acc x = .ok (acc', x') ∧ P (pre ++ xs) acc' x' := by
    intro xs
    induction xs with
    | nil => intro pre acc x _ h; exact ⟨acc, x, rfl, by rw [List.append_nil]; exact h⟩
    | cons y ys ih =>
      intro pre acc x e h
      obtain ⟨o, x1, e1, h1⟩ := hs pre y ys acc x e h
      obtain ⟨acc2, x2, e2, h2⟩ := ih (pre ++ [y]) _ x1 (by rw [List.append_assoc]; exact e) h1
      refine ⟨acc2, x2, ?_, by rw [List.append_assoc] at h2; exact h2⟩
      show (nox (f y x) >>= fun p => compX f ys (match p.1 with
        | some z => acc ++ [z]
        | none => acc) p.2) = _
      rw [e1]
      exact e2
  exact go all [] [] x rfl h
theorem compS_run {c : Type} {f : i → s → M (Option c × s)} {all : List i} (hl : all.length < 16777216) (P : List i → List c → s → Prop) {x : s} (h : P [] [] x)
    (hs : ∀ pre y post acc x, all = pre ++ y :: post → P pre acc x → ∃ o x', f y x = .ok (o, x') ∧ P (pre ++ [y]) (match o with
      | some z => acc ++ [z]
      | none => acc) x') : ∃ acc x', compS f all x = .ok (acc, x') ∧ P all acc x' := by
  unfold compS
  rw [chk_b hl]
  exact compX_run P h hs
/-- a plain map with a test -/
theorem compS_pure {c : Type} {f : i → Unit → M (Option c × Unit)} {all : List i} (g : i → Option c) (hl : all.length < 16777216) (hs : ∀ y ∈ all, f y () = .ok (g y, ())) : compS f all () = .ok (all.filterMap g, ()) := by
  obtain ⟨acc, x, e, h⟩ := compS_run (f := f) (all := all) hl (fun pre acc _ => acc = pre.filterMap g) (x := ()) rfl fun pre y post acc x e h => by
    refine ⟨g y, (), by cases x; exact hs y (by rw [e]; simp), ?_⟩
    rw [h, List.filterMap_append]
    cases e2 : g y with
    | none => simp [e2]
    | some z => simp [e2]
  rw [e, h]
end

/-! ### sorted lists -/
section
variable {a : Type}
/-- two sorted lists of the same things are one -/
theorem perm_sorted_eq {le : a → a → Bool} (anti : ∀ x y, le x y = true → le y x = true → x = y) : ∀ {xs ys : List a}, xs.Perm ys → xs.Pairwise (fun x y => le x y = true) → ys.Pairwise (fun x y => le x y = true) → xs = ys := by
  intro xs
  induction xs with
  | nil => intro ys h _ _; exact (List.nil_perm.mp h).symm
  | cons x xs ih =>
    intro ys h hx hy
    cases ys with
    | nil => exact absurd h.length_eq (by simp)
    | cons y ys =>
      rw [List.pairwise_cons] at hx hy
      have e : x = y := by
        have m1 : x ∈ y :: ys := h.mem_iff.mp List.mem_cons_self
        have m2 : y ∈ x :: xs := h.mem_iff.mpr List.mem_cons_self
        rcases List.mem_cons.mp m1 with r | r
        · exact r
        · rcases List.mem_cons.mp m2 with q | q
          · exact q.symm
          · exact anti x y (hx.1 y q) (hy.1 x r)
      subst e
      rw [ih (List.Perm.cons_inv h) hx.2 hy.2]
class LeOk (a : Type) [DecidableEq a] [DatumOrd a] : Prop where
  tr : ∀ x y z : a, leT x y = true → leT y z = true → leT x z = true
  tot : ∀ x y : a, (leT x y || leT y x) = true
  anti : ∀ x y : a, leT x y = true → leT y x = true → x = y
theorem leT_int (x y : Int) : leT x y = decide (x ≤ y) := by
  show (!decide (y < x)) = decide (x ≤ y)
  by_cases h : y < x
  · have : ¬ x ≤ y := by omega
    simp [h, this]
  · have : x ≤ y := by omega
    simp [h, this]
instance : LeOk Int where
  tr x y z h1 h2 := by
    rw [leT_int, decide_eq_true_eq] at h1 h2 ⊢
    omega
  tot x y := by
    rw [leT_int, leT_int, Bool.or_eq_true, decide_eq_true_eq, decide_eq_true_eq]
    omega
  anti x y h1 h2 := by
    rw [leT_int, decide_eq_true_eq] at h1 h2
    omega
theorem leT_p (x y : Int × Int) : leT x y = decide (x.1 < y.1 ∨ (x.1 = y.1 ∧ x.2 ≤ y.2)) := by
  show (!(if y.1 = x.1 then decide (y.2 < x.2) else decide (y.1 < x.1))) = _
  by_cases h : y.1 = x.1
  · rw [if_pos h]
    by_cases h2 : y.2 < x.2
    · have : ¬ (x.1 < y.1 ∨ (x.1 = y.1 ∧ x.2 ≤ y.2)) := by omega
      simp [h2, this]
    · have : (x.1 < y.1 ∨ (x.1 = y.1 ∧ x.2 ≤ y.2)) := by omega
      simp [h2, this]
  · rw [if_neg h]
    by_cases h2 : y.1 < x.1
    · have : ¬ (x.1 < y.1 ∨ (x.1 = y.1 ∧ x.2 ≤ y.2)) := by omega
      simp [h2, this]
    · have : (x.1 < y.1 ∨ (x.1 = y.1 ∧ x.2 ≤ y.2)) := by omega
      simp [h2, this]
instance : LeOk (Int × Int) where
  tr x y z h1 h2 := by
    rw [leT_p, decide_eq_true_eq] at h1 h2 ⊢
    omega
  tot x y := by
    rw [leT_p, leT_p, Bool.or_eq_true, decide_eq_true_eq, decide_eq_true_eq]
    omega
  anti x y h1 h2 := by
    rw [leT_p, decide_eq_true_eq] at h1 h2
    exact Prod.ext (by omega) (by omega)
theorem leT_3 (x y : T3 Int Int Int) : leT x y = decide (x.a < y.a ∨ (x.a = y.a ∧ (x.b < y.b ∨ (x.b = y.b ∧ x.c ≤ y.c)))) := by
  show (!DatumOrd.lt y x) = _
  have e : DatumOrd.lt y x = decide (y.a < x.a ∨ (y.a = x.a ∧ (y.b < x.b ∨ (y.b = x.b ∧ y.c < x.c)))) := by
    rw [Bool.eq_iff_iff, decide_eq_true_eq]
    show (if y.a = x.a then (if y.b = x.b then decide (y.c < x.c) else decide (y.b < x.b)) else decide (y.a < x.a)) = true ↔ _
    by_cases h : y.a = x.a
    · rw [if_pos h]
      by_cases h2 : y.b = x.b
      · rw [if_pos h2, decide_eq_true_eq]; omega
      · rw [if_neg h2, decide_eq_true_eq]; omega
    · rw [if_neg h, decide_eq_true_eq]; omega
  rw [e, Bool.eq_iff_iff, Bool.not_eq_true', decide_eq_false_iff_not, decide_eq_true_eq]
  omega
instance : LeOk (T3 Int Int Int) where
  tr x y z h1 h2 := by
    rw [leT_3, decide_eq_true_eq] at h1 h2 ⊢
    omega
  tot x y := by
    rw [leT_3, leT_3, Bool.or_eq_true, decide_eq_true_eq, decide_eq_true_eq]
    omega
  anti x y h1 h2 := by
    rw [leT_3, decide_eq_true_eq] at h1 h2
    exact PySem.W.T3.same (by omega) (by omega) (by omega)
variable [DecidableEq a] [DatumOrd a] [LeOk a]
theorem sortT_perm (xs : List a) : (sortT xs).Perm xs := List.mergeSort_perm xs _
theorem sortT_sorted (xs : List a) : (sortT xs).Pairwise (fun x y => leT x y = true) := List.pairwise_mergeSort (fun x y z => LeOk.tr x y z) (fun x y => LeOk.tot x y) xs
theorem sortT_eq {xs ys : List a} (h : xs.Perm ys) : sortT xs = sortT ys :=
  perm_sorted_eq LeOk.anti ((sortT_perm xs).trans (h.trans (sortT_perm ys).symm)) (sortT_sorted xs) (sortT_sorted ys)
theorem sortT_id {xs : List a} (h : xs.Pairwise (fun x y => leT x y = true)) : sortT xs = xs := perm_sorted_eq LeOk.anti (sortT_perm xs) (sortT_sorted xs) h
theorem sortT_idem (xs : List a) : sortT (sortT xs) = sortT xs := sortT_id (sortT_sorted xs)
theorem sortT_len (xs : List a) : (sortT xs).length = xs.length := (sortT_perm xs).length_eq
theorem sortT_mem {xs : List a} {x : a} : x ∈ sortT xs ↔ x ∈ xs := (sortT_perm xs).mem_iff
end
/-! ### numbers -/
theorem cdivW {i j : Int} (h : 0 < j) (h2 : j ≤ 10 ^ 40) : CDivW i j := by
  have h3 : j.natAbs ≤ 10 ^ 40 := by omega
  exact wide_div (b := 200) h (Nat.lt_of_le_of_lt h3 (by decide)) (by decide) (by decide)
theorem cmulW {i j : Int} (h1 : i.natAbs < 2 ^ 100000) (h2 : j.natAbs < 2 ^ 100000) : CMulW i j := wide_mul h1 h2 (by decide) (by decide) (by decide)

theorem erase_perm {a : Type} : ∀ {l : List a} {j : Nat} (h : j < l.length), (l[j] :: l.eraseIdx j).Perm l
  | x :: l, 0, _ => List.Perm.refl _
  | x :: l, j + 1, h => by
    have h' : j < l.length := by simpa using h
    show (l[j] :: x :: l.eraseIdx j).Perm (x :: l)
    exact (List.Perm.swap _ _ _).trans (List.Perm.cons _ (erase_perm h'))

/-! ### trees -/
abbrev Tie := T3 Int Int Int
abbrev Tr := List Int × List Tie
def tieOf (p q c : Int) : Tie := if p ≤ q then ⟨p, q, c⟩ else ⟨q, p, c⟩
/-- place by place, each new one tied to one that is there -/
inductive Grown : List Int → List Tie → Prop
  | one (p : Int) : Grown [p] []
  | more {ps : List Int} {ts : List Tie} (q p c : Int) : Grown ps ts → q ∈ ps → p ∉ ps → Grown (ps ++ [p]) (ts ++ [tieOf p q c])
theorem tieOf_lt {p q c : Int} (h : p ≠ q) : (tieOf p q c).a < (tieOf p q c).b ∧ ((tieOf p q c).a = p ∧ (tieOf p q c).b = q ∨ (tieOf p q c).a = q ∧ (tieOf p q c).b = p) ∧ (tieOf p q c).c = c := by
  unfold tieOf
  by_cases h1 : p ≤ q
  · rw [if_pos h1]; exact ⟨by show p < q; omega, .inl ⟨rfl, rfl⟩, rfl⟩
  · rw [if_neg h1]; exact ⟨by show q < p; omega, .inr ⟨rfl, rfl⟩, rfl⟩
theorem Grown.in {ps : List Int} {ts : List Tie} (g : Grown ps ts) : ∀ t ∈ ts, t.a ∈ ps ∧ t.b ∈ ps ∧ t.a < t.b := by
  induction g with
  | one p => intro t h; cases h
  | @more ps ts q p c g hq hp ih =>
    intro t h
    rcases List.mem_append.mp h with h | h
    · obtain ⟨h1, h2, h3⟩ := ih t h
      exact ⟨List.mem_append_left _ h1, List.mem_append_left _ h2, h3⟩
    · have e := List.mem_singleton.mp h
      subst e
      have hpq : p ≠ q := fun e => hp (e ▸ hq)
      obtain ⟨l, hab, _⟩ := tieOf_lt (c := c) hpq
      have mp : p ∈ ps ++ [p] := by simp
      have mq : q ∈ ps ++ [p] := List.mem_append_left _ hq
      rcases hab with ⟨h1, h2⟩ | ⟨h1, h2⟩
      · exact ⟨by rw [h1]; exact mp, by rw [h2]; exact mq, l⟩
      · exact ⟨by rw [h1]; exact mq, by rw [h2]; exact mp, l⟩
theorem Grown.len {ps : List Int} {ts : List Tie} (g : Grown ps ts) : ps.length = ts.length + 1 := by
  induction g with
  | one p => rfl
  | more q p c g hq hp ih => rw [List.length_append, List.length_append, ih]; rfl
theorem Grown.nd {ps : List Int} {ts : List Tie} (g : Grown ps ts) : ps.Nodup := by
  induction g with
  | one p => simp
  | more q p c g hq hp ih => exact List.nodup_append.mpr ⟨ih, by simp, fun x hx y hy e => by rw [List.mem_singleton.mp hy] at e; exact hp (e ▸ hx)⟩
/-- a tree: its worths, its ties sorted -/
structure TreeOk (t : Tr) : Prop where
  ex : ∃ ps ts, Grown ps ts ∧ ps.Perm (rangeL 0 (t.1.length : Int)) ∧ t.2 = sortT ts
theorem TreeOk.pos {t : Tr} (h : TreeOk t) : 1 ≤ t.1.length := by
  obtain ⟨ps, ts, g, p, e⟩ := h.ex
  have h1 := p.length_eq
  rw [rangeL_length] at h1
  have := g.len
  omega
theorem TreeOk.len {t : Tr} (h : TreeOk t) : t.1.length = t.2.length + 1 := by
  obtain ⟨ps, ts, g, p, e⟩ := h.ex
  have h1 := p.length_eq
  rw [rangeL_length] at h1
  have := g.len
  rw [e, sortT_len]
  omega
theorem rangeL_mem' {lo hi x : Int} : x ∈ rangeL lo hi ↔ lo ≤ x ∧ x < hi := by
  unfold rangeL
  rw [List.mem_map]
  constructor
  · rintro ⟨j, hj, rfl⟩
    have := List.mem_range.mp hj
    omega
  · rintro ⟨h1, h2⟩
    exact ⟨(x - lo).toNat, List.mem_range.mpr (by omega), by omega⟩
theorem TreeOk.tie {t : Tr} (h : TreeOk t) : ∀ x ∈ t.2, 0 ≤ x.a ∧ x.a < x.b ∧ x.b < (t.1.length : Int) := by
  obtain ⟨ps, ts, g, p, e⟩ := h.ex
  intro x hx
  rw [e, sortT_mem] at hx
  obtain ⟨h1, h2, h3⟩ := g.in x hx
  have a1 := rangeL_mem'.mp (p.mem_iff.mp h1)
  have a2 := rangeL_mem'.mp (p.mem_iff.mp h2)
  exact ⟨a1.1, h3, a2.2⟩
theorem TreeOk.sorted {t : Tr} (h : TreeOk t) : sortT t.2 = t.2 := by
  obtain ⟨ps, ts, g, p, e⟩ := h.ex
  rw [e, sortT_idem]
theorem sort2 (x y : Int) : sortT [x, y] = if x ≤ y then [x, y] else [y, x] := by
  by_cases h : x ≤ y
  · rw [if_pos h]
    exact sortT_id (by simp [leT_int, h])
  · rw [if_neg h]
    have e : sortT [x, y] = sortT [y, x] := sortT_eq (List.Perm.swap _ _ _)
    rw [e]
    exact sortT_id (by simp [leT_int]; omega)

theorem fm_congr {a b : Type} {f g : a → Option b} : ∀ {l : List a}, (∀ x ∈ l, f x = g x) → l.filterMap f = l.filterMap g
  | [], _ => rfl
  | x :: l, h => by
    have h1 := h x List.mem_cons_self
    have h2 := fm_congr (l := l) fun y hy => h y (List.mem_cons_of_mem _ hy)
    rw [List.filterMap_cons, List.filterMap_cons, h1, h2]
end PG

set_option Elab.async false
set_option linter.all false
set_option maxRecDepth 100000
namespace G
open PySem PySem.Spec PyProof.Rows L2 PG
open PySem.W (T3 T4 Datum DatumOrd)
def top (i : Nat) : Stmt := PySem.Challenge.pw_everyseat_k46_balance.main.body.getD i (.Pass ⟨0, 0, 0, 0⟩)
structure Nb (mg : Str → Option Value) : Prop where
  b_bool : mg "bool" = none
  b_int : mg "int" = none
  b_isinstance : mg "isinstance" = none
  b_len : mg "len" = none
  b_list : mg "list" = none
  b_max : mg "max" = none
  b_min : mg "min" = none
  b_range : mg "range" = none
  b_sorted : mg "sorted" = none
  b_str : mg "str" = none
  b_tuple : mg "tuple" = none
section
variable {P : Program} {w : World} {K : PySem.W.Frag} {mg : Str → Option Value} {base : Heap}
abbrev s_tied_places : Stmt := top 4
theorem sc_tied_places : FnScope ["many", "ties", "found", "a", "b", "length", "near", "place"] ["many", "ties"] (defScope s_tied_places) := ⟨rfl, rfl, rfl, by decide +kernel, rfl, by decide +kernel, by decide +kernel⟩
def addAt (fs : List (List Int)) (a b : Int) : M (List (List Int)) := match ixN fs.length a with
  | some j => (match fs[j]? with
    | some x => appL x b >>= fun y => .ok (fs.set j y)
    | none => bad)
  | none => bad
def m_tied_places (x_many : Int) (x_ties : List (T3 Int Int Int)) : M (List (List Int)) :=
  chk (okR x_many) >>= fun _ =>
  loopN (fun (t : T3 Int Int Int) (fs : List (List Int)) => addAt fs t.a t.b >>= fun f1 => addAt f1 t.b t.a) (sortT x_ties) (List.replicate x_many.toNat []) >>= fun fs =>
  .ok (fs.map sortT)
theorem wp_addAt {b : Type} {Q : b → Prop} {E : String → Prop} {fs : List (List Int)} {a y : Int} {k : List (List Int) → M b} (h : wp (addAt fs a y >>= k) Q E) :
    ∃ j x, ixN fs.length a = some j ∧ fs[j]? = some x ∧ x.length < sizeLine ∧ wp (k (fs.set j (x ++ [y]))) Q E := by
  unfold addAt at h
  cases e : ixN fs.length a with
  | none => rw [e] at h; exact h.elim
  | some j =>
    rw [e] at h
    have h : wp ((match fs[j]? with
      | some x => appL x y >>= fun y => .ok (fs.set j y)
      | none => bad) >>= k) Q E := h
    cases e2 : fs[j]? with
    | none => rw [e2] at h; exact h.elim
    | some x =>
      rw [e2] at h
      have h : wp ((appL x y >>= fun y => .ok (fs.set j y)) >>= k) Q E := h
      rw [wp_bind] at h
      obtain ⟨c, h⟩ := wp_appL h
      exact ⟨j, x, rfl, e2, c, h⟩
/-- all lists are new -/
def sp_tied_places_own (mg : Str → Option Value) : Sp := fun vs H Q E => ∃ (F : Hp) (x_many : Int) (v_ties : V) (x_ties : List (T3 Int Int Int)), vs = [.int x_many, v_ties] ∧ Pre F [] H ∧ R F v_ties x_ties ∧
  wp (m_tied_places x_many x_ties) (fun r => ∀ (F' H' : Hp) (p : Addr) (ps : List LC), Gr [] F H F' H' → OwnLL H F' H' p ps → ps.map (·.2) = r → Q (.ref p) H')
  (fun n => ∀ (C : Addr) (H' : Hp), mg (Str.ofString n) = some (.ref C) → Kp [] H H' → E (.ref C) none H')
def sp_tied_places (mg : Str → Option Value) : Sp := fun vs H Q E => ∃ (F : Hp) (x_many : Int) (v_ties : V) (x_ties : (List (T3 Int Int Int))), vs = [.int x_many, v_ties] ∧ Pre F [] H ∧ R (a := (List (T3 Int Int Int))) F v_ties x_ties ∧
  wp (m_tied_places x_many x_ties) (fun r => ∀ (F' H' : Hp), Gr [] F H F' H' → ∀ (p : Addr) (w : List V), H p = none → F' p = none → H' p = some (.lst w) → RL (a := (List Int)) F' w r → Q (.ref p) H')
  (fun n => ∀ (C : Addr) (H' : Hp), mg (Str.ofString n) = some (.ref C) → Kp [] H H' → E (.ref C) none H')
theorem lc_set {ps : List LC} {j : Nat} {c : LC} {y : List Int} (h : ps[j]? = some c) : (ps.set j (c.1, y)).map (·.1) = ps.map (·.1) ∧ (ps.set j (c.1, y)).map (·.2) = (ps.map (·.2)).set j y := by
  refine ⟨?_, by rw [List.map_set]⟩
  rw [List.map_set]
  refine List.ext_getElem? fun k => ?_
  by_cases hk : j = k
  · subst hk
    have hl := (List.getElem?_eq_some_iff.mp h).1
    rw [List.getElem?_set_self (by simpa using hl), List.getElem?_map, h]
    rfl
  · rw [List.getElem?_set_ne hk]
/-- one append -/
theorem tp_app {Z : Ent} {F H : Hp} {D : Addr} {o : HO} {rest : List (Addr × HO)} {ps : List LC} (O : Ow Z F ((D, o) :: ps.map lcell) H) {j : Nat} {c : LC} (h : ps[j]? = some c) (y : Int) :
    Ow Z F ((D, o) :: (ps.set j (c.1, c.2 ++ [y])).map lcell) (upd H c.1 (.lst (c.2.map V.int ++ [V.int y]))) ∧ H c.1 = some (.lst (c.2.map V.int)) := by
  have e : ((D, o) :: ps.map lcell)[j + 1]? = some (c.1, .lst (c.2.map V.int)) := by
    rw [List.getElem?_cons_succ, List.getElem?_map, h]
    rfl
  refine ⟨?_, O.at (j + 1) e⟩
  have q := O.set (j + 1) (.lst (c.2.map V.int ++ [V.int y])) e
  have e2 : ((D, o) :: ps.map lcell).set (j + 1) (c.1, .lst (c.2.map V.int ++ [V.int y])) = (D, o) :: (ps.set j (c.1, c.2 ++ [y])).map lcell := by
    rw [List.set_cons_succ, List.map_set]
    unfold lcell
    rw [List.map_append]
    rfl
  rw [e2] at q
  exact q
theorem tp_at {ps : List LC} {j : Nat} {x : List Int} (h : (ps.map (·.2))[j]? = some x) : ∃ c, ps[j]? = some c ∧ c.2 = x := by
  rw [List.getElem?_map] at h
  cases e : ps[j]? with
  | none => rw [e] at h; cases h
  | some c => rw [e] at h; exact ⟨c, rfl, Option.some.inj h⟩
theorem tp_ix {ps : List LC} {a : Int} {j : Nat} {c : LC} (e : ixN (ps.map (·.2)).length a = some j) (h : ps[j]? = some c) : atI (lrefs ps) a = some (.ref c.1) := by
  unfold atI lrefs
  rw [List.length_map] at e ⊢
  rw [e]
  show (lrefs ps)[j]? = _
  rw [List.getElem?_map, h]
  rfl
set_option maxHeartbeats 4000000 in
theorem ok_tied_places_own (nb : Nb mg) (D : Df K mg "tied_places" "tied_places" s_tied_places ["many", "ties"]) : Ca P w K mg base "tied_places" 1 ["many", "ties"] (sp_tied_places_own mg) := by
  refine Ca.mk' D sc_tied_places (fun vs H Q E h => ?_) (fun q_ f_ cdv A outer s H vs Q E hr h => ?_)
  · obtain ⟨F, _, _, _, rfl, _⟩ := h
    rfl
  · obtain ⟨F, x_many, v_ties, x_ties, rfl, P0, f_ties, hk⟩ := h
    have nd := sc_tied_places.nd
    have hu128 := hu128_of hr
    have O := P0.start
    refine ⟨_, pss_cons (ps_setLc (i := 2) (own := [("place", 7)]) (g := _) (tt := _) rfl nd rfl rfl (sw_true rfl rfl rfl (by decide +kernel)) (pi_range1 rfl nb.b_range (pa_cons (pv 0) pa_nil))
        (blkOk_by (own := [("place", 7)]) (N := ["many", "ties", "found", "a", "b", "length", "near", "place"]) (sc := defScope s_tied_places) (by decide +kernel)) (fun _ _ _ _ _ => (pg_name (i := 7) nd rfl (Or.inl rfl))) (fun _ _ _ _ _ => pts_nil) (fun _ _ _ _ _ => pe_lst pa_nil))
      (pss_cons (ps_for (passes_of rfl) rfl (pi_list (pe_callB (cr_sortedT (T3 Int Int Int) hu128) (by rfl) nb.b_sorted (by decide +kernel) (pa_cons (pv 1) pa_nil)))
        (pg_tup rfl (pgs_cons (pg_name (i := 3) nd rfl (Or.inl rfl)) (pgs_cons (pg_name (i := 4) nd rfl (Or.inl rfl)) (pgs_cons (pg_name (i := 5) nd rfl (Or.inl rfl)) pgs_nil))))
        (pss_cons (ps_expr (pe_bm PySem.F.plainAttrs_list PySem.F.slot_list_append PySem.F.type_list_append mt_append (pe_ix ix_list (pv 2) (pv 3) (fun _ _ => rfl)) (pa_cons (pv 4) pa_nil)))
          (pss_one (ps_expr (pe_bm PySem.F.plainAttrs_list PySem.F.slot_list_append PySem.F.type_list_append mt_append (pe_ix ix_list (pv 2) (pv 4) (fun _ _ => rfl)) (pa_cons (pv 3) pa_nil))))))
      (pss_one (ps_ret (pe_lc (own := [("near", 6)]) (g := _) (tt := _) rfl nd (pi_list (pv 2))
        (blkOk_by (own := [("near", 6)]) (N := ["many", "ties", "found", "a", "b", "length", "near", "place"]) (sc := defScope s_tied_places) (by decide +kernel)) (fun _ _ _ _ _ => (pg_name (i := 6) nd rfl (Or.inl rfl))) (fun _ _ _ _ _ => pts_nil)
        (fun _ _ _ _ _ => pe_callB (cr_sortedT Int hu128) (by rfl) nb.b_sorted (by decide +kernel) (pa_cons (pv 6) pa_nil)))))), ?_⟩
    obtain ⟨c1, hk⟩ := wp_chk hk
    obtain ⟨L, hL, hLs, hLd⟩ := loopN_L hk
    refine ⟨_, rfl, _, rfl, c1.lo, c1.hi, fun D hD => ?_⟩
    refine lc_range (lo := 0) (n := x_many.toNat) (fun i H => ∃ ps : List LC, Ow _ F ((D, .lst (lrefs ps)) :: ps.map lcell) H ∧ ps.map (·.2) = List.replicate i []) ⟨[], O.new hD, rfl⟩ ?_ ?_
    · rintro i H1 hi ⟨ps, O1, e1⟩
      refine ⟨rfl, (by show 0 ≤ sizeLine; decide), fun q hq => ?_⟩
      have O2 := O1.new (o := .lst []) hq
      have hlen : ps.length = i := by
        have := congrArg List.length e1
        simpa using this
      have b := c1.2
      refine ⟨_, O2.at 1 rfl, lt_line (by rw [List.length_map]; omega), ps ++ [(q, [])], ?_, by rw [List.map_append, e1, List.replicate_succ']; rfl⟩
      have O3 := O2.set 1 (.lst ((lrefs ps) ++ [V.ref q])) rfl
      have ea : lrefs (ps ++ [(q, [])]) = lrefs ps ++ [V.ref q] := List.map_append
      rw [ea, List.map_append]
      refine O3.perm ?_
      show ((q, HO.lst []) :: (D, _) :: ps.map lcell).Perm ((D, _) :: (ps.map lcell ++ [(q, HO.lst [])]))
      refine (List.Perm.swap _ _ _).trans (List.Perm.cons _ ?_)
      exact (List.perm_append_comm (l₁ := [(q, HO.lst [])]) (l₂ := ps.map lcell))
    · rintro H1 ⟨ps, O1, e1⟩
      obtain ⟨p1, w1, e2, h2, hl2⟩ := R.lst_ f_ties
      cases e2
      refine ⟨_, rfl, _, _, _, rfl, O1.s _ _ h2, RL.mono hl2 O1.s, fun p3 hp3 => ?_⟩
      obtain ⟨F4, O4, S4, h4⟩ := O1.putE hp3 (.lst (sortV w1 x_ties))
      have hl4 := (RL.sorted hl2).mono S4
      refine ⟨_, rfl, ⟨_, SqLF O4.s h4⟩, ?_⟩
      rw [← e1] at hL
      refine for_list (K := K) (xs := sortV w1 x_ties) (fun i σ H => ∃ (ps' : List LC) (t3 t4 t5 : Option V), σ = [some (V.int x_many), some (V.ref p1), some (V.ref D), t3, t4, t5, none, none] ∧ Ow _ F4 ((D, .lst (lrefs ps')) :: ps'.map lcell) H ∧ ps'.length = x_many.toNat ∧ L (List.drop i (sortT x_ties)) (ps'.map fun (c : LC) => c.2))
        ⟨ps, none, none, none, rfl, O4, (by have := congrArg List.length e1; simpa using this), hL⟩ (fun i_ σ_ H_ _ hp_ => ?_) ?_ ?_
      · obtain ⟨_, _, _, _, _, hO_, _⟩ := hp_
        exact SqLF hO_.s h4
      · rintro i x σ H5 hi ⟨ps', t3, t4, t5, rfl, O5, hl5, hL5⟩
        obtain ⟨y, ey, hy⟩ := RL.got hl4 hi
        rw [drop_at ey] at hL5
        have hk := hLs _ _ _ hL5
        obtain ⟨p6, v1, v2, v3, e6, h6, r1, r2, r3⟩ := R.t3_ hy
        cases e6
        obtain rfl := R.int_ r1
        obtain rfl := R.int_ r2
        obtain rfl := R.int_ r3
        obtain ⟨j, x, ej, ex, cl, hk⟩ := wp_addAt hk
        have hk := wp_bind (k := fun r => Except.ok r) |>.mpr hk
        obtain ⟨j2, x2, ej2, ex2, cl2, hk⟩ := wp_addAt hk
        obtain ⟨c, hc, rfl⟩ := tp_at ex
        obtain ⟨O6, hq6⟩ := tp_app (rest := []) O5 hc y.b
        obtain ⟨l1, l2⟩ := lc_set (y := c.2 ++ [y.b]) hc
        rw [← l2] at ex2 ej2
        obtain ⟨c', hc', rfl⟩ := tp_at ex2
        obtain ⟨O7, hq7⟩ := tp_app (rest := []) O6 hc' y.a
        obtain ⟨l3, l4⟩ := lc_set (y := c'.2 ++ [y.a]) hc'
        have eD : lrefs (ps'.set j (c.1, c.2 ++ [y.b])) = lrefs ps' := by
          have := congrArg (List.map V.ref) l1
          rw [List.map_map, List.map_map] at this
          exact this
        have eD2 : lrefs ((ps'.set j (c.1, c.2 ++ [y.b])).set j2 (c'.1, c'.2 ++ [y.a])) = lrefs (ps'.set j (c.1, c.2 ++ [y.b])) := by
          have := congrArg (List.map V.ref) l3
          rw [List.map_map, List.map_map] at this
          exact this
        have i2 : atI (lrefs ps') y.b = some (.ref c'.1) := by
          rw [← eD]
          exact tp_ix ej2 hc'
        refine ⟨_, _, rfl, SqTF O5.s h6, rfl, _, _, rfl, _, _, rfl, _, _, rfl, rfl, _, rfl, _, rfl, _, _, _, _, rfl, rfl, SqL.of (O5.at 0 rfl), tp_ix ej hc, .inl ⟨rfl, _, SqL.of hq6⟩, _, rfl, _, _, _, rfl, rfl, hq6, by rw [List.length_map]; exact cl, ?_⟩
        refine ⟨_, rfl, _, rfl, _, _, _, _, rfl, rfl, SqL.of (O6.at 0 rfl), i2, .inl ⟨rfl, _, SqL.of hq7⟩, _, rfl, _, _, _, rfl, rfl, hq7, by rw [List.length_map]; exact cl2, ?_⟩
        refine ⟨_, _, _, _, rfl, by rw [eD2, eD]; exact O7, by rw [List.length_set, List.length_set]; exact hl5, ?_⟩
        rw [l4, l2]
        exact hk
      · rintro σ H5 ⟨ps', t3, t4, t5, rfl, O5, hl5, hL5⟩
        rw [drop_end hl4.len] at hL5
        have hk := hLd _ hL5
        refine ⟨_, rfl, _, rfl, ⟨_, SqL.of (O5.at 0 rfl)⟩, fun D2 hD2 => ?_⟩
        have b1 := c1.2
        refine lc_list (K := K) (xs := lrefs ps') (fun i H => ∃ qs : List LC, Ow _ F4 ((D2, .lst (lrefs qs)) :: (qs.map lcell ++ ((D, .lst (lrefs ps')) :: ps'.map lcell))) H ∧ qs.map (·.2) = ((ps'.map (·.2)).take i).map sortT)
          ⟨[], O5.new hD2, by simp⟩ (fun i_ H_ _ hp_ => ?_) ?_ ?_
        · obtain ⟨qs, hO_, _⟩ := hp_
          exact SqL.of (hO_.ch (D, _) (List.mem_cons_of_mem _ (List.mem_append_right _ List.mem_cons_self)))
        · rintro i x H6 hi ⟨qs, O6, e6⟩
          obtain ⟨c, hc, rfl⟩ : ∃ c, ps'[i]? = some c ∧ x = V.ref c.1 := by
            have hi : (ps'.map fun (c : LC) => V.ref c.1)[i]? = some x := hi
            rw [List.getElem?_map] at hi
            cases e : ps'[i]? with
            | none => rw [e] at hi; cases hi
            | some c => rw [e] at hi; exact ⟨c, rfl, (Option.some.inj hi).symm⟩
          have hm : lcell c ∈ ps'.map lcell := List.mem_map.mpr ⟨c, List.mem_of_getElem? hc, rfl⟩
          have hq := O6.ch (lcell c) (List.mem_cons_of_mem _ (List.mem_append_right _ (List.mem_cons_of_mem _ hm)))
          have hil := (List.getElem?_eq_some_iff.mp hc).1
          have hql : qs.length ≤ i := by
            have := congrArg List.length e6
            simp at this
            omega
          have es : sortV (c.2.map V.int) c.2 = (sortT c.2).map V.int := (RL.sorted (H := F) RL.of_ints).ints
          refine ⟨rfl, _, rfl, _, _, c.2, rfl, hq, RL.of_ints, fun p hp => ?_⟩
          have O7 := O6.new (o := .lst (sortV (c.2.map V.int) c.2)) hp
          refine ⟨_, O7.at 1 rfl, lt_line (by rw [List.length_map]; omega), qs ++ [(p, sortT c.2)], ?_, ?_⟩
          · have O8 := O7.set 1 (.lst (lrefs qs ++ [V.ref p])) rfl
            have ea : lrefs (qs ++ [(p, sortT c.2)]) = lrefs qs ++ [V.ref p] := List.map_append
            rw [ea, List.map_append]
            refine O8.perm ?_
            rw [es]
            show ((p, HO.lst _) :: (D2, _) :: (qs.map lcell ++ _)).Perm ((D2, _) :: (qs.map lcell ++ [(p, HO.lst _)] ++ _))
            refine (List.Perm.swap _ _ _).trans (List.Perm.cons _ ?_)
            rw [List.append_assoc]
            exact List.perm_middle.symm
          · rw [List.map_append, e6]
            have e7 : (ps'.map (·.2))[i]? = some c.2 := by rw [List.getElem?_map, hc]; rfl
            rw [List.take_succ, e7, List.map_append]
            rfl
        · rintro H6 ⟨qs, O6, e6⟩
          have el : (lrefs ps').length = (ps'.map (·.2)).length := by rw [List.length_map, List.length_map]
          rw [el, List.take_length] at e6
          have hsub : ∀ c ∈ qs, lcell c ∈ (D2, HO.lst (lrefs qs)) :: (qs.map lcell ++ ((D, .lst (lrefs ps')) :: ps'.map lcell)) := fun c hc => List.mem_cons_of_mem _ (List.mem_append_left _ (List.mem_map.mpr ⟨c, hc, rfl⟩))
          have nas : ∀ b : Addr, ¬ b ∈ ([] : List Addr) := fun b h => nomatch h
          refine hk F4 H6 D2 qs O6.g ⟨O5.was hD2, O6.cf _ List.mem_cons_self, O6.ch _ List.mem_cons_self, fun c hc => (O6.ca _ (hsub c hc)).resolve_left (nas _), fun c hc => O6.cf _ (hsub c hc), fun c hc => O6.ch _ (hsub c hc), ?_⟩ e6
          have n := O6.nd
          rw [List.map_cons, List.map_append, List.nodup_cons, List.nodup_append] at n
          rw [List.nodup_cons]
          have em : (qs.map lcell).map (·.1) = qs.map (·.1) := by
            rw [List.map_map]
            rfl
          rw [em] at n
          exact ⟨fun h => n.1 (List.mem_append_left _ h), n.2.1⟩
theorem ok_tied_places (nb : Nb mg) (D : Df K mg "tied_places" "tied_places" s_tied_places ["many", "ties"]) : Ca P w K mg base "tied_places" 1 ["many", "ties"] (sp_tied_places mg) := by
  refine FnOk.impC (ok_tied_places_own nb D) fun vs H Q E h => ?_
  obtain ⟨F, x_many, v_ties, x_ties, rfl, P0, f_ties, hk⟩ := h
  refine ⟨F, x_many, v_ties, x_ties, rfl, P0, f_ties, wp_mono hk fun r k F' H' p ps g L e => ?_⟩
  obtain ⟨F2, g2, n2, rl⟩ := L.frz g
  rw [e] at rl
  exact k F2 H' g2 p _ L.pn n2 L.ph rl

abbrev s_need_place : Stmt := top 5
theorem sc_need_place : FnScope ["tree", "place"] ["tree", "place"] (defScope s_need_place) := ⟨rfl, rfl, rfl, by decide +kernel, rfl, by decide +kernel, by decide +kernel⟩
def m_need_place (x_tree : ((List Int) × (List (T3 Int Int Int)))) (x_place : Int) : M (Unit) :=
if (0 : Int) ≤ x_place then (
if x_place < (x_tree.1.length : Int) then (
.ok ())
else (
raise "NoPlace"))
else (
raise "NoPlace")
def sp_need_place (mg : Str → Option Value) : Sp := fun vs H Q E => ∃ (F : Hp) (v_tree : V) (x_tree : ((List Int) × (List (T3 Int Int Int)))) (x_place : Int), vs = [v_tree, V.int x_place] ∧ Pre F [] H ∧ R (a := ((List Int) × (List (T3 Int Int Int)))) F v_tree x_tree ∧
  wp (m_need_place x_tree x_place) (fun r => ∀ (F' H' : Hp), Gr [] F H F' H' → Q .non H')
  (fun n => ∀ (C : Addr) (H' : Hp), mg (Str.ofString n) = some (.ref C) → Kp [] H H' → E (.ref C) none H')
set_option maxHeartbeats 2000000 in
theorem ok_need_place (nb : Nb mg) (E_NoPlace : ∃ C, Xc K mg "NoPlace" C) (D : Df K mg "need_place" "need_place" s_need_place ["tree", "place"]) : Ca P w K mg base "need_place" 1 ["tree", "place"] (sp_need_place mg) := by
  obtain ⟨XC_NoPlace, X_NoPlace⟩ := E_NoPlace
  refine Ca.mk' D sc_need_place (fun vs H Q E h => ?_) (fun q_ f_ cdv A outer s H vs Q E hr h => ?_)
  · obtain ⟨F, _, _, _, rfl, _⟩ := h
    rfl
  · obtain ⟨F, v_tree, x_tree, x_place, rfl, P0, f_tree, hk⟩ := h
    have nd := sc_need_place.nd
    have hu64 := hr.units
    have hu128 := hu128_of hr
    have O := P0.start
    refine ⟨_, (pss_one (ps_if (pt_not (pt_chain op_le op_lt pe_int (pv 1) (pe_callB call_lenT (by rfl) nb.b_len PySem.boot_len (pa_cons (pe_ix (ixTupK (K := K) rfl) (pv 0) pe_int (fun _ _ => rfl)) pa_nil)))) (pss_one (ps_raise rfl (takes_of rfl rfl rfl rfl) (pmk_own PySem.F.excBase_ValueError X_NoPlace.x X_NoPlace.g X_NoPlace.k (raises_own X_NoPlace.b X_NoPlace.t) rfl))) pss_nil)), ?_⟩
    refine ⟨_, rfl, _, _, rfl, rfl, _, rfl, ?_⟩
    refine iteD (fun q1 => ?_) (fun q1 => ?_)
    · have hk := wp_if hk q1
      obtain ⟨p2, v5, v6, e3, h4, r7, r8⟩ := R.t2_ f_tree
      cases e3
      obtain ⟨p9, w10, e11, h12, hl13⟩ := R.lst_ r7
      cases e11
      refine ⟨_, rfl, _, _, _, _, rfl, rfl, (SqTF O.s h4), rfl, _, _, _, rfl, (.inl (O.s _ _ h12)), hl13.len, _, _, rfl, rfl, _, rfl, ?_⟩
      refine iteN (fun q14 => ?_) (fun q14 => ?_)
      · have hk := wp_if hk q14
        exact hk _ _  O.g 
      · have hk := wp_el hk q14
        exact hk _ _ X_NoPlace.g O.kp
    · have hk := wp_el hk q1
      refine ⟨_, rfl, ?_⟩
      refine iteNF ?_
      exact hk _ _ X_NoPlace.g O.kp
abbrev s_tied_to : Stmt := top 6
theorem sc_tied_to : FnScope ["tree", "place"] ["tree", "place"] (defScope s_tied_to) := ⟨rfl, rfl, rfl, by decide +kernel, rfl, by decide +kernel, by decide +kernel⟩
def m_tied_to (x_tree : List Int × List (T3 Int Int Int)) (x_place : Int) : M (List Int) :=
  m_need_place x_tree x_place >>= fun _ =>
  m_tied_places (x_tree.1.length : Int) x_tree.2 >>= fun r =>
  opt (atI r x_place) >>= fun y =>
  .ok y
def sp_tied_to (mg : Str → Option Value) : Sp := fun vs H Q E => ∃ (F : Hp) (v_tree : V) (x_tree : List Int × List (T3 Int Int Int)) (x_place : Int), vs = [v_tree, .int x_place] ∧ Pre F [] H ∧ R (a := List Int × List (T3 Int Int Int)) F v_tree x_tree ∧
  wp (m_tied_to x_tree x_place) (fun r => ∀ (F' H' : Hp), Gr [] F H F' H' → ∀ (p : Addr) (w : List V), H p = none → F' p = none → H' p = some (.lst w) → RL (a := Int) F' w r → Q (.ref p) H')
  (fun n => ∀ (C : Addr) (H' : Hp), mg (Str.ofString n) = some (.ref C) → Kp [] H H' → E (.ref C) none H')
set_option maxHeartbeats 2000000 in
theorem ok_tied_to (nb : Nb mg) (C_need_place : Ca P w K mg base "need_place" 1 ["tree", "place"] (sp_need_place mg)) (C_tied_places : Ca P w K mg base "tied_places" 1 ["many", "ties"] (sp_tied_places_own mg))
    (D : Df K mg "tied_to" "tied_to" s_tied_to ["tree", "place"]) : Ca P w K mg base "tied_to" 2 ["tree", "place"] (sp_tied_to mg) := by
  obtain ⟨fa1, fd1, G1, M1, K1, B1⟩ := C_need_place.ex
  obtain ⟨fa2, fd2, G2, M2, K2, B2⟩ := C_tied_places.ex
  refine Ca.mk' D sc_tied_to (fun vs H Q E h => ?_) (fun q_ f_ cdv A outer s H vs Q E hr h => ?_)
  · obtain ⟨F, _, _, _, rfl, _⟩ := h
    rfl
  · obtain ⟨F, v_tree, x_tree, x_place, rfl, P0, f_tree, hk⟩ := h
    have nd := sc_tied_to.nd
    have O := P0.start
    have tk : ∀ (cls : Value) (d : Option Addr) (σ : L2.St) (H : Hp), E cls d H → E cls d H := fun _ _ _ _ h => h
    refine ⟨_, pss_cons (ps_expr (pe_call G1 (hr.mono (by decide)) rfl M1 K1 B1 .nil (passes_call (takes_of rfl rfl rfl rfl) fun _ _ _ _ h => h) (pa_cons (pv 0) (pa_cons (pv 1) pa_nil))))
      (pss_one (ps_ret (pe_ix ix_list (pe_call G2 (hr.mono (by decide)) rfl M2 K2 B2 .nil (passes_call (takes_of rfl rfl rfl rfl) fun _ _ _ _ h => h)
        (pa_cons (pe_callB call_lenT (by rfl) nb.b_len PySem.boot_len (pa_cons (pe_ix ix_tup (pv 0) pe_int (fun _ _ => rfl)) pa_nil)) (pa_cons (pe_ix ix_tup (pv 0) pe_int (fun _ _ => rfl)) pa_nil))) (pv 1) (fun _ _ => rfl)))), ?_⟩
    refine ⟨_, rfl, _, rfl, _, _, _, _, rfl, O.pre0, f_tree, wp_call hk (fun r1 er1 hk F1 H1 g1 => ?_) (fun n hn C H1 hC kp => hn C H1 hC (O.kp0 kp))⟩
    have O1 := O.call0 g1
    have f_tree := f_tree.mono g1.f
    obtain ⟨p2, v1, v2, e2, h2, r1', r2'⟩ := R.t2_ f_tree
    cases e2
    obtain ⟨p3, w3, e3, h3, hl3⟩ := R.lst_ r1'
    cases e3
    refine ⟨_, rfl, _, _, _, _, rfl, rfl, SqTF O1.s h2, rfl, _, _, _, rfl, .inl (O1.s _ _ h3), hl3.len, _, rfl, _, _, _, _, rfl, rfl, SqTF O1.s h2, rfl, _, _, _, _, rfl, O1.pre0, r2', wp_call hk (fun r er hk F4 H4 p4 ps g4 L el => ?_) (fun n hn C H1 hC kp => hn C H1 hC (O1.kp0 kp))⟩
    obtain ⟨y, ey, hk⟩ := wp_opt hk
    subst el
    unfold atI at ey
    cases ei : ixN (ps.map (·.2)).length x_place with
    | none => rw [ei] at ey; cases ey
    | some j =>
      rw [ei] at ey
      obtain ⟨c, hc, rfl⟩ := tp_at ey
      refine ⟨_, rfl, _, _, _, _, rfl, rfl, SqL.of L.ph, tp_ix ei hc, ?_⟩
      have hm := List.mem_of_getElem? hc
      have hz : H c.1 = none := O1.was (L.qn c hm)
      have O4 := O1.call0 g4
      exact hk _ _ O4.g _ _ hz (L.qf c hm) (L.qh c hm) RL.of_ints

abbrev s_places_of_least : Stmt := top 8
theorem sc_places_of_least : FnScope ["numbers", "place"] ["numbers"] (defScope s_places_of_least) := ⟨rfl, rfl, rfl, by decide +kernel, rfl, by decide +kernel, by decide +kernel⟩
def m_places_of_least (x_numbers : (List Int)) : M ((List Int)) :=
chk (okR (x_numbers.length : Int)) >>= fun _ =>
compS (fun (y7 : Int) (st25 : Unit) =>
opt (atI x_numbers y7) >>= fun y34 =>
opt (mnI x_numbers) >>= fun y44 =>
if y34 = y44 then (
.ok (some y7, ()))
else (
.ok (none, ()))) (rangeL 0 (x_numbers.length : Int)) () >>= fun q62 =>
.ok q62.1
def sp_places_of_least (mg : Str → Option Value) : Sp := fun vs H Q E => ∃ (F : Hp) (v_numbers : V) (x_numbers : (List Int)), vs = [v_numbers] ∧ Pre F [] H ∧ R (a := (List Int)) F v_numbers x_numbers ∧
  wp (m_places_of_least x_numbers) (fun r => ∀ (F' H' : Hp), Gr [] F H F' H' → ∀ (p : Addr) (w : (List V)), H p = none → F' p = none → H' p = some (.lst w) → RL (a := Int) F' w r → Q (.ref p) H')
  (fun n => ∀ (C : Addr) (H' : Hp), mg (Str.ofString n) = some (.ref C) → Kp [] H H' → E (.ref C) none H')
set_option maxHeartbeats 2000000 in
theorem ok_places_of_least (nb : Nb mg) (D : Df K mg "places_of_least" "places_of_least" s_places_of_least ["numbers"]) : Ca P w K mg base "places_of_least" 1 ["numbers"] (sp_places_of_least mg) := by
  refine Ca.mk' D sc_places_of_least (fun vs H Q E h => ?_) (fun q_ f_ cdv A outer s H vs Q E hr h => ?_)
  · obtain ⟨F, _, _, rfl, _⟩ := h
    rfl
  · obtain ⟨F, v_numbers, x_numbers, rfl, P0, f_numbers, hk⟩ := h
    have nd := sc_places_of_least.nd
    have hu64 := hr.units
    have hu128 := hu128_of hr
    have O := P0.start
    refine ⟨_, (pss_one (ps_ret (pe_lc (own := [("place", 1)]) (g := gName 1) (tt := _) rfl nd (pi_range1 rfl nb.b_range (pa_cons (pe_callB call_lenT (by rfl) nb.b_len PySem.boot_len (pa_cons (pv 0) pa_nil)) pa_nil)) (blkOk_by (own := [("place", 1)]) (N := ["numbers", "place"]) (sc := defScope s_places_of_least) (by decide +kernel)) (fun _ _ _ _ _ => (pg_name (i := 1) nd rfl (Or.inl rfl))) (fun _ _ _ _ _ => (pts_one (pt_cmpR (op_eqT Int hu64) (pe_ix (ixListK (K := K) rfl) (pv 0) (pv 1) (fun _ _ => rfl)) (pe_callB (cr_minK (K := K) rfl rfl) (by rfl) nb.b_min (by decide +kernel) (pa_cons (pv 0) pa_nil)) (nomark _)))) (fun _ _ _ _ _ => (pv 1))))), ?_⟩
    obtain ⟨p2, w3, e4, h5, hl6⟩ := R.lst_ f_numbers
    cases e4
    obtain ⟨c8, hk⟩ := wp_chk hk
    obtain ⟨c13, L9, hL10, hLs11, hLd12⟩ := compS_L hk
    refine ⟨_, rfl, _, _, _, rfl, (.inl (O.s _ _ h5)), hl6.len, _, rfl, c8.lo, c8.hi, fun p14 hp15 => ?_⟩
    have z51 := O.was hp15
    refine lc_range (lo := 0) (n := ((x_numbers.length : Int)).toNat) (fun i H => ∃ (F_ : Hp) (st : Unit) (acc : List Int) (wa : List V), Same F F_ ∧ Ow _ F_ [(p14, .lst wa)] H ∧ RL F_ wa acc ∧ wa.length ≤ i ∧ L9 (List.drop i (rangeL 0 (x_numbers.length : Int))) acc st) ⟨F, (), [], [], Same.refl _, O.new hp15, RL.nil, Nat.zero_le _, hL10⟩ ?_ ?_
    · rintro i16 H18 hi19 ⟨F24, st25, acc21, wa22, S26, O28, hl27, la23, hL10⟩
      have f_numbers := f_numbers.mono S26
      have h5 := S26 _ _ h5
      have hl6 := hl6.mono S26
      rw [rangeL_get0 hi19] at hL10
      have hk := hLs11 _ _ _ _ hL10
      obtain ⟨y7, he_⟩ : ∃ z_, z_ = 0 + (i16 : Int) := ⟨_, rfl⟩
      try rw [← he_] at hk
      rw [← he_]
      obtain ⟨p29, w30, e31, h32, hl33⟩ := R.lst_ f_numbers
      cases e31
      obtain ⟨y34, e35, hk⟩ := wp_opt hk
      obtain ⟨w36, e37, r38⟩ := hl33.atI e35
      obtain rfl := R.int_ r38
      obtain ⟨p39, w40, e41, h42, hl43⟩ := R.lst_ f_numbers
      cases e41
      obtain ⟨y44, e45, hk⟩ := wp_opt hk
      refine ⟨rfl, _, rfl, _, rfl, _, _, _, _, rfl, rfl, (SqLF O28.s h32), e37, _, rfl, _, x_numbers, rfl, (by rw [← RL.ints hl43]; exact (SqLF O28.s h42)), (List.length_pos_of_mem (mnI_is e45).1), fun m46 h47 h48 => ?_⟩
      have e49 := mnI_uq e45 h47 h48
      subst e49
      refine ⟨_, _, R.int, R.int, _, rfl, ?_⟩
      refine iteD (fun q50 => ?_) (fun q50 => ?_)
      · have hk := wp_if hk q50
        refine ⟨_, rfl, _, (O28.at 0 rfl), (comp_lenR la23 hi19 (by rw [Int.sub_zero]) c13), ?_⟩
        exact ⟨F24, (), acc21 ++ [y7], wa22 ++ [V.int y7], S26, O28.set 0 (.lst (wa22 ++ [V.int y7])) rfl, RL.snoc hl27 R.int, by rw [List.length_append]; exact Nat.succ_le_succ la23, hk⟩
      · have hk := wp_el hk q50
        exact ⟨F24, (), acc21, wa22, S26, O28, hl27, Nat.le_succ_of_le la23, hk⟩
    rintro H52 ⟨F53, st54, acc55, wa56, S57, O58, hl59, la60, hL61⟩
    rw [rangeL_end0] at hL61
    have hk := hLd12 _ _ hL61
    have f_numbers := f_numbers.mono S57
    have h5 := S57 _ _ h5
    have hl6 := hl6.mono S57
    exact hk _ _  O58.g  _ _ z51 (O58.cf _ (List.mem_of_getElem? (i := 0) rfl)) (O58.at 0 rfl) hl59
abbrev s_part_size : Stmt := top 9
theorem sc_part_size : FnScope ["tree", "place", "near", "found", "at", "there"] ["tree", "place", "near"] (defScope s_part_size) := ⟨rfl, rfl, rfl, by decide +kernel, rfl, by decide +kernel, by decide +kernel⟩
def m_part_size (x_tree : ((List Int) × (List (T3 Int Int Int)))) (x_place : Int) (x_near : Int) : M (Int) :=
whL (r := Unit) (fun (st17 : Int × (List Int)) =>
if st17.1 < (st17.2.length : Int) then (
opt (atI st17.2 st17.1) >>= fun y24 =>
m_tied_to x_tree y24 >>= fun r29 =>
compS (fun (y53 : Int) (st70 : Unit) =>
if y53 ≠ x_place then (
if y53 ∉ st17.2 then (
.ok (some y53, ()))
else (
.ok (none, ())))
else (
.ok (none, ()))) r29 () >>= fun q89 =>
chk (st17.2.length + q89.1.length < 16777216) >>= fun _ =>
.ok (.go ((st17.1 + (1 : Int)), (st17.2 ++ q89.1))))
else (
.ok (.stop (st17.1, st17.2)))) 1000000 ((0 : Int), [x_near]) >>= fun f112 => match f112 with
| .rt _ => bad
| .nx st106 =>
.ok (st106.2.length : Int)
def sp_part_size (mg : Str → Option Value) : Sp := fun vs H Q E => ∃ (F : Hp) (v_tree : V) (x_tree : ((List Int) × (List (T3 Int Int Int)))) (x_place : Int) (x_near : Int), vs = [v_tree, V.int x_place, V.int x_near] ∧ Pre F [] H ∧ R (a := ((List Int) × (List (T3 Int Int Int)))) F v_tree x_tree ∧
  wp (m_part_size x_tree x_place x_near) (fun r => ∀ (F' H' : Hp), Gr [] F H F' H' → Q (V.int r) H')
  (fun n => ∀ (C : Addr) (H' : Hp), mg (Str.ofString n) = some (.ref C) → Kp [] H H' → E (.ref C) none H')
set_option maxHeartbeats 2000000 in
theorem ok_part_size (nb : Nb mg) (C_tied_to : Ca P w K mg base "tied_to" 2 ["tree", "place"] (sp_tied_to mg)) (D : Df K mg "part_size" "part_size" s_part_size ["tree", "place", "near"]) : Ca P w K mg base "part_size" 3 ["tree", "place", "near"] (sp_part_size mg) := by
  obtain ⟨fa_tied_to, fd_tied_to, G_tied_to, M_tied_to, K_tied_to, B_tied_to⟩ := C_tied_to.ex
  refine Ca.mk' D sc_part_size (fun vs H Q E h => ?_) (fun q_ f_ cdv A outer s H vs Q E hr h => ?_)
  · obtain ⟨F, _, _, _, _, rfl, _⟩ := h
    rfl
  · obtain ⟨F, v_tree, x_tree, x_place, x_near, rfl, P0, f_tree, hk⟩ := h
    have nd := sc_part_size.nd
    have hu64 := hr.units
    have hu128 := hu128_of hr
    have O := P0.start
    refine ⟨_, (pss_cons (ps_set (i := 3) nd rfl (Or.inr rfl) (pe_lst (pa_cons (pv 2) pa_nil)))
  (pss_cons (ps_set (i := 4) nd rfl (Or.inl rfl) pe_int)
  (pss_cons (ps_while (passes_of rfl) (pt_cmpR op_lt (pv 4) (pe_callB call_lenT (by rfl) nb.b_len PySem.boot_len (pa_cons (pv 3) pa_nil)) (nomark _)) (pss_cons (ps_expr (bmK (K := K) rfl (pe_bm PySem.F.plainAttrs_list PySem.F.slot_list_extend PySem.F.type_list_extend mt_extend (pv 3) (pa_cons (pe_lc (own := [("there", 5)]) (g := gName 5) (tt := _) rfl nd (piListK (K := K) rfl (pe_call G_tied_to (hr.mono (by decide)) rfl M_tied_to K_tied_to B_tied_to .nil (passes_call (takes_of rfl rfl rfl rfl) fun _ _ _ _ h => h) (pa_cons (pv 0) (pa_cons (pe_ix (ixListK (K := K) rfl) (pv 3) (pv 4) (fun _ _ => rfl)) pa_nil)))) (blkOk_by (own := [("there", 5)]) (N := ["tree", "place", "near", "found", "at", "there"]) (sc := defScope s_part_size) (by decide +kernel)) (fun _ _ _ _ _ => (pg_name (i := 5) nd rfl (Or.inl rfl))) (fun _ _ _ _ _ => (pts_one (PW.pt (pw_and (pt_cmpR (op_neT Int hu64) (pv 5) (pv 1) (nomark _)) (pw_and1 (pt_cmpR (op_ninT Int hu64) (pv 5) (pv 3) rfl)))))) (fun _ _ _ _ _ => (pv 5))) pa_nil))))
  (pss_one (ps_aug (i := 4) nd rfl (Or.inl rfl) pe_int ip_add))))
  (pss_one (ps_ret (pe_callB call_lenT (by rfl) nb.b_len PySem.boot_len (pa_cons (pv 3) pa_nil))))))), ?_⟩
    refine ⟨_, rfl, (by show 1 ≤ sizeLine; decide), fun p2 hp3 => ?_⟩
    have hl5 : RL (a := Int) F ([V.int x_near]) ([x_near]) := RL.cons R.int RL.nil
    have z6 := O.was hp3
    have O4 := O.new (o := .lst ([V.int x_near])) hp3
    obtain ⟨L7, X8, hL9, hLs10, hLd11⟩ := whL_L hk
    refine while_P (fun n σ H_ => ∃ (F_ : Hp) (st : Int × (List Int)) (w_0 : (List V)), σ = [some v_tree, some (V.int x_place), some (V.int x_near), some (V.ref p2), some (V.int st.1), none] ∧ Same F F_ ∧ Ow (⟨[], F, H⟩ : Ent) F_ [(p2, .lst w_0)] H_ ∧ RL (a := Int) F_ w_0 st.2 ∧ L7 n st) (fun σ H_ => ∃ (F_ : Hp) (st : Int × (List Int)) (w_0 : (List V)), σ = [some v_tree, some (V.int x_place), some (V.int x_near), some (V.ref p2), some (V.int st.1), none] ∧ Same F F_ ∧ Ow (⟨[], F, H⟩ : Ent) F_ [(p2, .lst w_0)] H_ ∧ RL (a := Int) F_ w_0 st.2 ∧ X8 st) 1000000 ⟨F, ((0 : Int), [x_near]), [V.int x_near], rfl, Same.refl _, O4, hl5, hL9⟩ ?_ ?_
    rotate_left
    · rintro hex12 m13 sg14 H15 ⟨F21, st17, w19, rfl, S16, O22, hl20, hL18⟩
      have f_tree := f_tree.mono S16
      have hk := hLs10 _ _ hL18
      refine ⟨_, rfl, _, rfl, _, _, _, rfl, (.inl (O22.at 0 rfl)), hl20.len, _, _, rfl, rfl, _, rfl, ?_⟩
      refine iteD (fun q23 => ?_) (fun q23 => ?_)
      · have hk := wp_if hk q23
        obtain ⟨y24, e25, hk⟩ := wp_opt hk
        obtain ⟨w26, e27, r28⟩ := hl20.atI e25
        obtain rfl := R.int_ r28
        refine ⟨_, (fun _ _ h_ => h_), _, rfl, (.inl ⟨rfl, _, SqL.of (O22.at 0 rfl)⟩), _, rfl, _, rfl, _, rfl, _, _, _, _, rfl, rfl, (SqL.of (O22.at 0 rfl)), e27, _, _, _, _, rfl, O22.pre0, f_tree, wp_call hk (fun r29 er30 hk F31 H32 g33 p34 w35 hn36 hf37 h38 hl39 => ?_) (fun n hn C H1 hC kp => hn C H1 hC (O22.kp0 kp))⟩
        have O40 := O22.call0 g33
        have S_ := g33.f
        have f_tree := f_tree.mono S_
        have hl20 := hl20.mono S_
        have S16 := S16.trans S_
        have O41 := O22.got O40 rfl hn36 hf37 h38
        have z42 := O22.was hn36
        obtain ⟨F43, O44, S45, h46⟩ := O41.frzE 0 rfl z42
        have f_tree := f_tree.mono S45
        have hl20 := hl20.mono S45
        have S16 := S16.trans S45
        have hl39 := hl39.mono S45
        have h47 := R.lst (a := Int) h46 hl39
        obtain ⟨p48, w49, e50, h51, hl52⟩ := R.lst_ h47
        cases e50
        obtain ⟨c58, L54, hL55, hLs56, hLd57⟩ := compS_L hk
        refine ⟨_, rfl, ⟨_, (SqLF O44.s h51)⟩, fun p59 hp60 => ?_⟩
        have z78 := O44.was hp60
        refine lc_list (K := K) (xs := w49) (fun i H => ∃ (F_ : Hp) (st : Unit) (acc : List Int) (wa : List V), Same F43 F_ ∧ Ow _ F_ [(p59, .lst wa), (p2, .lst w19)] H ∧ RL F_ wa acc ∧ wa.length ≤ i ∧ L54 (List.drop i r29) acc st) ⟨F43, (), [], [], Same.refl _, O44.new hp60, RL.nil, Nat.zero_le _, hL55⟩ (fun i_ H_ _ hp_ => ?_) ?_ ?_
        · obtain ⟨_, _, _, _, hS_, hO_, _⟩ := hp_
          exact SqLF hO_.s (hS_ _ _ h51)
        · rintro i61 x62 H63 hi64 ⟨F69, st70, acc66, wa67, S71, O73, hl72, la68, hL55⟩
          have f_tree := f_tree.mono S71
          have hl20 := hl20.mono S71
          have S16 := S16.trans S71
          have h47 := h47.mono S71
          have h51 := S71 _ _ h51
          have hl52 := hl52.mono S71
          obtain ⟨y53, e74, r75⟩ := RL.got hl52 hi64
          rw [drop_at e74] at hL55
          have hk := hLs56 _ _ _ _ hL55
          obtain rfl := R.int_ r75
          refine ⟨rfl, _, rfl, _, rfl, _, _, R.int, R.int, _, rfl, ?_⟩
          refine iteD (fun q76 => ?_) (fun q76 => ?_)
          · have hk := wp_if hk q76
            refine ⟨_, rfl, _, rfl, _, _, _, _, R.int, rfl, (.inl (O73.at 1 rfl)), (RL.mono (hl20) O73.s), _, rfl, ?_⟩
            refine iteD (fun q77 => ?_) (fun q77 => ?_)
            · have hk := wp_if hk q77
              refine ⟨_, rfl, _, (O73.at 0 rfl), (comp_len la68 hi64 hl52.len c58), ?_⟩
              exact ⟨F69, (), acc66 ++ [y53], wa67 ++ [V.int y53], S71, O73.set 0 (.lst (wa67 ++ [V.int y53])) rfl, RL.snoc hl72 R.int, by rw [List.length_append]; exact Nat.succ_le_succ la68, hk⟩
            · have hk := wp_el hk q77
              exact ⟨F69, (), acc66, wa67, S71, O73, hl72, Nat.le_succ_of_le la68, hk⟩
          · have hk := wp_el hk q76
            refine iteF ?_
            exact ⟨F69, (), acc66, wa67, S71, O73, hl72, Nat.le_succ_of_le la68, hk⟩
        rintro H79 ⟨F80, st81, acc82, wa83, S84, O85, hl86, la87, hL88⟩
        rw [drop_end hl52.len] at hL88
        have hk := hLd57 _ _ hL88
        have f_tree := f_tree.mono S84
        have hl20 := hl20.mono S84
        have S16 := S16.trans S84
        have h47 := h47.mono S84
        have h51 := S84 _ _ h51
        have hl52 := hl52.mono S84
        obtain ⟨F90, O91, S92, h93⟩ := O85.frzE 0 rfl z78
        have f_tree := f_tree.mono S92
        have hl20 := hl20.mono S92
        have S16 := S16.trans S92
        have h47 := h47.mono S92
        have h51 := S92 _ _ h51
        have hl52 := hl52.mono S92
        have hl86 := hl86.mono S92
        have h94 := R.lst (a := Int) h93 hl86
        obtain ⟨p95, w96, e97, h98, hl99⟩ := R.lst_ h94
        cases e97
        obtain ⟨c100, hk⟩ := wp_chk hk
        refine ⟨_, _, _, _, rfl, rfl, (O91.at 0 rfl), (O91.s _ _ h98), (by rw [hl20.len, hl99.len]; exact le_line c100), ?_⟩
        have O101 := O91.set 0 (.lst (w19 ++ w96)) rfl
        have hl102 : RL (a := Int) F90 (w19 ++ w96) (st17.2 ++ acc82) := RL.app hl20 hl99
        refine ⟨_, rfl, _, _, rfl, rfl, ?_⟩
        obtain ⟨m_, hm_, hk⟩ := hk
        exact ⟨m_, hm_, F90, ((st17.1 + (1 : Int)), (st17.2 ++ acc82)), (w19 ++ w96), rfl, S16, O101, hl102, hk⟩
      · have hk := wp_el hk q23
        exact hex12 _ _ ⟨F21, (st17.1, st17.2), w19, rfl, S16, O22, hl20, hk⟩
    rintro sg103 H104 ⟨F110, st106, w108, rfl, S105, O111, hl109, hL107⟩
    have hk := hLd11 _ hL107
    have f_tree := f_tree.mono S105
    refine ⟨_, rfl, _, _, _, rfl, (.inl (O111.at 0 rfl)), hl109.len, ?_⟩
    exact hk _ _  O111.g 
abbrev s_balance : Stmt := top 10
theorem sc_balance : FnScope ["tree", "greatest", "place", "near"] ["tree"] (defScope s_balance) := ⟨rfl, rfl, rfl, by decide +kernel, rfl, by decide +kernel, by decide +kernel⟩
def m_balance (x_tree : ((List Int) × (List (T3 Int Int Int)))) : M ((List Int)) :=
chk (okR (x_tree.1.length : Int)) >>= fun _ =>
loopN (fun (y19 : Int) (st31 : (List Int)) =>
m_tied_to x_tree y19 >>= fun r45 =>
compS (fun (y69 : Int) (st86 : Unit) =>
m_part_size x_tree y19 y69 >>= fun r92 =>
.ok (some r92, ())) r45 () >>= fun q109 =>
chk (([(0 : Int)]).length + q109.1.length < 16777216) >>= fun _ =>
opt (mxI (([(0 : Int)]) ++ q109.1)) >>= fun y139 =>
appL st31 y139 >>= fun _ =>
.ok (st31 ++ [y139])) (rangeL 0 (x_tree.1.length : Int)) ([] : List Int) >>= fun st152 =>
m_places_of_least st152 >>= fun r163 =>
.ok r163
def sp_balance (mg : Str → Option Value) : Sp := fun vs H Q E => ∃ (F : Hp) (v_tree : V) (x_tree : ((List Int) × (List (T3 Int Int Int)))), vs = [v_tree] ∧ Pre F [] H ∧ R (a := ((List Int) × (List (T3 Int Int Int)))) F v_tree x_tree ∧
  wp (m_balance x_tree) (fun r => ∀ (F' H' : Hp), Gr [] F H F' H' → ∀ (p : Addr) (w : (List V)), H p = none → F' p = none → H' p = some (.lst w) → RL (a := Int) F' w r → Q (.ref p) H')
  (fun n => ∀ (C : Addr) (H' : Hp), mg (Str.ofString n) = some (.ref C) → Kp [] H H' → E (.ref C) none H')
set_option maxHeartbeats 2000000 in
theorem ok_balance (nb : Nb mg) (C_part_size : Ca P w K mg base "part_size" 3 ["tree", "place", "near"] (sp_part_size mg)) (C_places_of_least : Ca P w K mg base "places_of_least" 1 ["numbers"] (sp_places_of_least mg)) (C_tied_to : Ca P w K mg base "tied_to" 2 ["tree", "place"] (sp_tied_to mg)) (D : Df K mg "balance" "balance" s_balance ["tree"]) : Ca P w K mg base "balance" 4 ["tree"] (sp_balance mg) := by
  obtain ⟨fa_part_size, fd_part_size, G_part_size, M_part_size, K_part_size, B_part_size⟩ := C_part_size.ex
  obtain ⟨fa_places_of_least, fd_places_of_least, G_places_of_least, M_places_of_least, K_places_of_least, B_places_of_least⟩ := C_places_of_least.ex
  obtain ⟨fa_tied_to, fd_tied_to, G_tied_to, M_tied_to, K_tied_to, B_tied_to⟩ := C_tied_to.ex
  refine Ca.mk' D sc_balance (fun vs H Q E h => ?_) (fun q_ f_ cdv A outer s H vs Q E hr h => ?_)
  · obtain ⟨F, _, _, rfl, _⟩ := h
    rfl
  · obtain ⟨F, v_tree, x_tree, rfl, P0, f_tree, hk⟩ := h
    have nd := sc_balance.nd
    have hu64 := hr.units
    have hu128 := hu128_of hr
    have O := P0.start
    refine ⟨_, (pss_cons (ps_set (i := 1) nd rfl (Or.inl rfl) (pe_lst pa_nil))
  (pss_cons (ps_for (passes_of rfl) rfl (pi_range1 rfl nb.b_range (pa_cons (pe_callB call_lenT (by rfl) nb.b_len PySem.boot_len (pa_cons (pe_ix (ixTupK (K := K) rfl) (pv 0) pe_int (fun _ _ => rfl)) pa_nil)) pa_nil)) (pg_name (i := 2) nd rfl (Or.inr rfl)) (pss_one (ps_expr (bmK (K := K) rfl (pe_bm PySem.F.plainAttrs_list PySem.F.slot_list_append PySem.F.type_list_append mt_append (pv 1) (pa_cons (pe_callB (cr_maxK (K := K) rfl rfl) (by rfl) nb.b_max (by decide +kernel) (pa_cons (pe_op op_cat (pe_lst (pa_cons pe_int pa_nil)) (pe_lc (own := [("near", 3)]) (g := gName 3) (tt := _) rfl nd (piListK (K := K) rfl (pe_call G_tied_to (hr.mono (by decide)) rfl M_tied_to K_tied_to B_tied_to .nil (passes_call (takes_of rfl rfl rfl rfl) fun _ _ _ _ h => h) (pa_cons (pv 0) (pa_cons (pv 2) pa_nil)))) (blkOk_by (own := [("near", 3)]) (N := ["tree", "greatest", "place", "near"]) (sc := defScope s_balance) (by decide +kernel)) (fun _ _ _ _ _ => (pg_name (i := 3) nd rfl (Or.inl rfl))) (fun _ _ _ _ _ => pts_nil) (fun _ _ _ _ _ => (pe_call G_part_size (hr.mono (by decide)) rfl M_part_size K_part_size B_part_size .nil passL (pa_cons (pv 0) (pa_cons (pv 2) (pa_cons (pv 3) pa_nil))))))) pa_nil)) pa_nil))))))
  (pss_one (ps_ret (pe_call G_places_of_least (hr.mono (by decide)) rfl M_places_of_least K_places_of_least B_places_of_least .nil (passes_call (takes_of rfl rfl rfl rfl) fun _ _ _ _ h => h) (pa_cons (pv 1) pa_nil)))))), ?_⟩
    refine ⟨(by show 0 ≤ sizeLine; decide), fun p2 hp3 => ?_⟩
    have hl5 : RL (a := Int) F ([]) ([] : List Int) := RL.nil
    have z6 := O.was hp3
    have O4 := O.new (o := .lst ([])) hp3
    obtain ⟨p7, v10, v11, e8, h9, r12, r13⟩ := R.t2_ f_tree
    cases e8
    obtain ⟨p14, w15, e16, h17, hl18⟩ := R.lst_ r12
    cases e16
    obtain ⟨c20, hk⟩ := wp_chk hk
    obtain ⟨L21, hL22, hLs23, hLd24⟩ := loopN_L hk
    refine ⟨_, rfl, _, _, _, _, rfl, rfl, (SqTF O4.s h9), rfl, _, _, _, rfl, (.inl (O4.s _ _ h17)), hl18.len, _, rfl, c20.lo, c20.hi, ?_⟩
    refine for_range (lo := 0) (n := ((x_tree.1.length : Int)).toNat) (fun i σ H_ => ∃ (F_ : Hp) (st : (List Int)) (w_0 : (List V)) (t_0 : Option V), σ = [some (V.ref p7), some (V.ref p2), t_0, none] ∧ Same F F_ ∧ Ow _ F_ [(p2, .lst w_0)] H_ ∧ RL (a := Int) F_ w_0 st ∧ L21 (List.drop i (rangeL 0 (x_tree.1.length : Int))) st) ⟨F, ([] : List Int), [], none, rfl, Same.refl _, O4, hl5, hL22⟩ ?_ ?_
    · rintro i25 sg27 H28 hi29 ⟨F35, st31, w32, t34, rfl, S30, O36, hl33, hL22⟩
      have f_tree := f_tree.mono S30
      have h9 := S30 _ _ h9
      have r12 := r12.mono S30
      have r13 := r13.mono S30
      have h17 := S30 _ _ h17
      have hl18 := hl18.mono S30
      rw [rangeL_get0 hi29] at hL22
      have hk := hLs23 _ _ _ hL22
      obtain ⟨y19, he_⟩ : ∃ z_, z_ = 0 + (i25 : Int) := ⟨_, rfl⟩
      try rw [← he_] at hk
      rw [← he_]
      refine ⟨_, rfl, (.inl ⟨rfl, _, SqL.of (O36.at 0 rfl)⟩), (by show 1 ≤ sizeLine; decide), fun p37 hp38 => ?_⟩
      have hl44 : RL (a := Int) F35 ([V.int (0 : Int)]) ([(0 : Int)]) := RL.cons R.int RL.nil
      obtain ⟨F39, O40, S41, h42⟩ := O36.putE hp38 (.lst ([V.int (0 : Int)]))
      have f_tree := f_tree.mono S41
      have h9 := S41 _ _ h9
      have r12 := r12.mono S41
      have r13 := r13.mono S41
      have h17 := S41 _ _ h17
      have hl18 := hl18.mono S41
      have hl33 := hl33.mono S41
      have S30 := S30.trans S41
      have hl44 := hl44.mono S41
      have h43 := R.lst (a := Int) h42 hl44
      refine ⟨_, rfl, _, rfl, _, _, _, _, rfl, O40.pre0, f_tree, wp_call hk (fun r45 er46 hk F47 H48 g49 p50 w51 hn52 hf53 h54 hl55 => ?_) (fun n hn C H1 hC kp => hn C H1 hC (O40.kp0 kp))⟩
      have O56 := O40.call0 g49
      have S_ := g49.f
      have f_tree := f_tree.mono S_
      have h9 := S_ _ _ h9
      have r12 := r12.mono S_
      have r13 := r13.mono S_
      have h17 := S_ _ _ h17
      have hl18 := hl18.mono S_
      have hl33 := hl33.mono S_
      have S30 := S30.trans S_
      have h43 := h43.mono S_
      have O57 := O40.got O56 rfl hn52 hf53 h54
      have z58 := O40.was hn52
      obtain ⟨F59, O60, S61, h62⟩ := O57.frzE 0 rfl z58
      have f_tree := f_tree.mono S61
      have h9 := S61 _ _ h9
      have r12 := r12.mono S61
      have r13 := r13.mono S61
      have h17 := S61 _ _ h17
      have hl18 := hl18.mono S61
      have hl33 := hl33.mono S61
      have S30 := S30.trans S61
      have h43 := h43.mono S61
      have hl55 := hl55.mono S61
      have h63 := R.lst (a := Int) h62 hl55
      obtain ⟨p64, w65, e66, h67, hl68⟩ := R.lst_ h63
      cases e66
      obtain ⟨c74, L70, hL71, hLs72, hLd73⟩ := compS_L hk
      refine ⟨_, rfl, ⟨_, (SqLF O60.s h67)⟩, fun p75 hp76 => ?_⟩
      have z98 := O60.was hp76
      refine lc_list (K := K) (xs := w65) (fun i H => ∃ (F_ : Hp) (st : Unit) (acc : List Int) (wa : List V), Same F59 F_ ∧ Ow _ F_ [(p75, .lst wa), (p2, .lst w32)] H ∧ RL F_ wa acc ∧ wa.length ≤ i ∧ L70 (List.drop i r45) acc st) ⟨F59, (), [], [], Same.refl _, O60.new hp76, RL.nil, Nat.zero_le _, hL71⟩ (fun i_ H_ _ hp_ => ?_) ?_ ?_
      · obtain ⟨_, _, _, _, hS_, hO_, _⟩ := hp_
        exact SqLF hO_.s (hS_ _ _ h67)
      · rintro i77 x78 H79 hi80 ⟨F85, st86, acc82, wa83, S87, O89, hl88, la84, hL71⟩
        have f_tree := f_tree.mono S87
        have h9 := S87 _ _ h9
        have r12 := r12.mono S87
        have r13 := r13.mono S87
        have h17 := S87 _ _ h17
        have hl18 := hl18.mono S87
        have hl33 := hl33.mono S87
        have S30 := S30.trans S87
        have h43 := h43.mono S87
        have h63 := h63.mono S87
        have h67 := S87 _ _ h67
        have hl68 := hl68.mono S87
        obtain ⟨y69, e90, r91⟩ := RL.got hl68 hi80
        rw [drop_at e90] at hL71
        have hk := hLs72 _ _ _ _ hL71
        obtain rfl := R.int_ r91
        refine ⟨rfl, ?_⟩
        refine ⟨_, rfl, _, rfl, _, rfl, _, _, _, _, _, rfl, O89.pre0, f_tree, wp_call hk (fun r92 er93 hk F94 H95 g96 => ?_) (fun n hn => hn.elim)⟩
        have O97 := O89.call0 g96
        have S_ := g96.f
        have f_tree := f_tree.mono S_
        have h9 := S_ _ _ h9
        have r12 := r12.mono S_
        have r13 := r13.mono S_
        have h17 := S_ _ _ h17
        have hl18 := hl18.mono S_
        have hl33 := hl33.mono S_
        have S30 := S30.trans S_
        have h43 := h43.mono S_
        have h63 := h63.mono S_
        have h67 := S_ _ _ h67
        have hl68 := hl68.mono S_
        have S87 := S87.trans S_
        have hl88 := hl88.mono S_
        refine ⟨_, (O97.at 0 rfl), (comp_len la84 hi80 hl68.len c74), ?_⟩
        exact ⟨F94, (), acc82 ++ [r92], wa83 ++ [V.int r92], S87, O97.set 0 (.lst (wa83 ++ [V.int r92])) rfl, RL.snoc hl88 R.int, by rw [List.length_append]; exact Nat.succ_le_succ la84, hk⟩
      rintro H99 ⟨F100, st101, acc102, wa103, S104, O105, hl106, la107, hL108⟩
      rw [drop_end hl68.len] at hL108
      have hk := hLd73 _ _ hL108
      have f_tree := f_tree.mono S104
      have h9 := S104 _ _ h9
      have r12 := r12.mono S104
      have r13 := r13.mono S104
      have h17 := S104 _ _ h17
      have hl18 := hl18.mono S104
      have hl33 := hl33.mono S104
      have S30 := S30.trans S104
      have h43 := h43.mono S104
      have h63 := h63.mono S104
      have h67 := S104 _ _ h67
      have hl68 := hl68.mono S104
      obtain ⟨F110, O111, S112, h113⟩ := O105.frzE 0 rfl z98
      have f_tree := f_tree.mono S112
      have h9 := S112 _ _ h9
      have r12 := r12.mono S112
      have r13 := r13.mono S112
      have h17 := S112 _ _ h17
      have hl18 := hl18.mono S112
      have hl33 := hl33.mono S112
      have S30 := S30.trans S112
      have h43 := h43.mono S112
      have h63 := h63.mono S112
      have h67 := S112 _ _ h67
      have hl68 := hl68.mono S112
      have hl106 := hl106.mono S112
      have h114 := R.lst (a := Int) h113 hl106
      obtain ⟨p115, w116, e117, h118, hl119⟩ := R.lst_ h43
      cases e117
      obtain ⟨p120, w121, e122, h123, hl124⟩ := R.lst_ h114
      cases e122
      obtain ⟨c125, hk⟩ := wp_chk hk
      refine ⟨_, _, _, _, rfl, rfl, (O111.s _ _ h118), (O111.s _ _ h123), (by rw [hl119.len, hl124.len]; exact le_line c125), fun p126 hp127 => ?_⟩
      have hl133 : RL (a := Int) F110 (w116 ++ w121) (([(0 : Int)]) ++ acc102) := RL.app hl119 hl124
      obtain ⟨F128, O129, S130, h131⟩ := O111.putE hp127 (.lst (w116 ++ w121))
      have f_tree := f_tree.mono S130
      have h9 := S130 _ _ h9
      have r12 := r12.mono S130
      have r13 := r13.mono S130
      have h17 := S130 _ _ h17
      have hl18 := hl18.mono S130
      have hl33 := hl33.mono S130
      have S30 := S30.trans S130
      have h43 := h43.mono S130
      have h63 := h63.mono S130
      have h67 := S130 _ _ h67
      have hl68 := hl68.mono S130
      have h114 := h114.mono S130
      have h118 := S130 _ _ h118
      have hl119 := hl119.mono S130
      have h123 := S130 _ _ h123
      have hl124 := hl124.mono S130
      have hl133 := hl133.mono S130
      have h132 := R.lst (a := Int) h131 hl133
      obtain ⟨p134, w135, e136, h137, hl138⟩ := R.lst_ h132
      cases e136
      obtain ⟨y139, e140, hk⟩ := wp_opt hk
      refine ⟨_, (([(0 : Int)]) ++ acc102), rfl, (by rw [← RL.ints hl138]; exact (SqLF O129.s h137)), (List.length_pos_of_mem (mxI_is e140).1), fun m141 h142 h143 => ?_⟩
      have e144 := mxI_uq e140 h142 h143
      subst e144
      obtain ⟨c145, hk⟩ := wp_appL hk
      refine ⟨_, _, _, rfl, rfl, (O129.at 0 rfl), (by rw [hl33.len]; exact c145), ?_⟩
      have O147 := O129.set 0 (.lst (w32 ++ [V.int y139])) rfl
      have hl148 : RL (a := Int) F128 (w32 ++ [V.int y139]) (st31 ++ [y139]) := RL.snoc hl33 R.int
      exact ⟨F128, (st31 ++ [y139]), (w32 ++ [V.int y139]), some (V.int y19), rfl, S30, O147, hl148, hk⟩
    rintro sg149 H150 ⟨F157, st152, w154, t156, rfl, S151, O158, hl155, hL153⟩
    rw [rangeL_end0] at hL153
    have hk := hLd24 _ hL153
    have f_tree := f_tree.mono S151
    have h9 := S151 _ _ h9
    have r12 := r12.mono S151
    have r13 := r13.mono S151
    have h17 := S151 _ _ h17
    have hl18 := hl18.mono S151
    have hi160 : ∀ b ∈ ([p2] : List Addr), ∃ o, (b, o) ∈ ([(p2, .lst w154)] : List (Addr × HO)) := (inA_cons 0 rfl inA_nil)
    have S161 := O158.lendS hi160
    have h162 := R.lst (a := Int) ((lendF_at (by simp)).trans (O158.at 0 rfl) : lendF [p2] F157 _ p2 = some (.lst w154)) (hl155.mono S161)
    refine ⟨_, rfl, _, _, _, rfl, (O158.lendP hi160), h162, wp_call hk (fun r163 er164 hk F165 H166 g167 p168 w169 hn170 hf171 h172 hl173 => ?_) (fun n hn C H1 hC kp => hn C H1 hC (O158.kp0 kp))⟩
    obtain ⟨O174, S176, hT177, hN178⟩ := O158.unlend hi160 g167
    obtain ⟨F175, hFb_⟩ : ∃ z_, z_ = backF [p2] F165 := ⟨_, rfl⟩
    rw [← hFb_] at O174 S176 hT177 hN178
    have hf171 := hN178 _ hf171
    have hl173 := RL.mv hT177 hl173
    have f_tree := f_tree.mono S176
    have h9 := S176 _ _ h9
    have r12 := r12.mono S176
    have r13 := r13.mono S176
    have h17 := S176 _ _ h17
    have hl18 := hl18.mono S176
    have hl155 := hl155.mono S176
    have O179 := O158.got O174 rfl hn170 hf171 h172
    have z180 := O158.was hn170
    exact hk _ _  O179.g  _ _ z180 (O179.cf _ (List.mem_of_getElem? (i := 0) rfl)) (O179.at 0 rfl) hl173
abbrev s_law_cell_at : Stmt := top 12
theorem sc_law_cell_at : FnScope ["script", "k"] ["script", "k"] (defScope s_law_cell_at) := ⟨rfl, rfl, rfl, by decide +kernel, rfl, by decide +kernel, by decide +kernel⟩
def m_law_cell_at (x_script : (List Int)) (x_k : Int) : M (Int) :=
if x_k < (x_script.length : Int) then (
opt (atI x_script x_k) >>= fun y2 =>
.ok y2)
else (
.ok (0 : Int))
def sp_law_cell_at (K : PySem.W.Frag) (mg : Str → Option Value) : Sp := fun vs H Q E => ∃ (F : Hp) (a_script : Addr) (x_script : (List Int)) (x_k : Int), vs = [.ref a_script, V.int x_k] ∧ Pre F [] H ∧ SqL K F a_script (x_script.map V.int) ∧
  wp (m_law_cell_at x_script x_k) (fun r => ∀ (F' H' : Hp), Gr [] F H F' H' → Q (V.int r) H')
  (fun n => ∀ (C : Addr) (H' : Hp), mg (Str.ofString n) = some (.ref C) → Kp [] H H' → E (.ref C) none H')
set_option maxHeartbeats 2000000 in
theorem ok_law_cell_at (nb : Nb mg) (D : Df K mg "_law_cell_at" "_law_cell_at" s_law_cell_at ["script", "k"]) : Ca P w K mg base "_law_cell_at" 1 ["script", "k"] (sp_law_cell_at K mg) := by
  refine Ca.mk' D sc_law_cell_at (fun vs H Q E h => ?_) (fun q_ f_ cdv A outer s H vs Q E hr h => ?_)
  · obtain ⟨F, _, _, _, rfl, _⟩ := h
    rfl
  · obtain ⟨F, a_script, x_script, x_k, rfl, P0, f_script, hk⟩ := h
    have nd := sc_law_cell_at.nd
    have hu64 := hr.units
    have hu128 := hu128_of hr
    have O := P0.start
    refine ⟨_, (pss_cons (ps_if (pt_cmpR op_lt (pv 1) (pe_callB (call_lenS (K := K) rfl) (by rfl) nb.b_len PySem.boot_len (pa_cons (pv 0) pa_nil)) (nomark _)) (pss_one (ps_ret (pe_ix (ixListK (K := K) rfl) (pv 0) (pv 1) (fun _ _ => rfl)))) pss_nil)
  (pss_one (ps_ret pe_int))), ?_⟩
    refine ⟨_, rfl, _, rfl, _, _, rfl, (O.s.seq f_script), ?_⟩
    rw [List.length_map]
    refine ⟨_, _, rfl, rfl, _, rfl, ?_⟩
    refine iteD (fun q1 => ?_) (fun q1 => ?_)
    · have hk := wp_if hk q1
      obtain ⟨y2, e3, hk⟩ := wp_opt hk
      obtain ⟨w4, e5, r6⟩ := (RL.of_ints (H := F)).atI e3
      obtain rfl := R.int_ r6
      refine ⟨_, rfl, _, rfl, _, _, _, _, rfl, rfl, (O.s.seq f_script), e5, ?_⟩
      exact hk _ _  O.g 
    · have hk := wp_el hk q1
      exact hk _ _  O.g 
abbrev s_law_digits : Stmt := top 13
theorem sc_law_digits : FnScope ["cell", "many", "top", "found", "rest", "k", "stir"] ["cell", "many", "top"] (defScope s_law_digits) := ⟨rfl, rfl, rfl, by decide +kernel, rfl, by decide +kernel, by decide +kernel⟩
def m_law_digits (x_cell : Int) (x_many : Int) (x_top : Int) : M ((List Int)) :=
chk (okR x_many) >>= fun _ =>
loopN (fun (y7 : Int) (st19 : Int × (List Int)) =>
chk (CMulX (977 : Int) y7) >>= fun _ =>
chk (CMulX ((x_cell + ((977 : Int) * y7)) + (1 : Int)) (48271 : Int)) >>= fun _ =>
chk (0 < (2147483647 : Int)) >>= fun _ =>
chk (CMulX ((((x_cell + ((977 : Int) * y7)) + (1 : Int)) * (48271 : Int)) % (2147483647 : Int)) ((((x_cell + ((977 : Int) * y7)) + (1 : Int)) * (48271 : Int)) % (2147483647 : Int))) >>= fun _ =>
chk (0 < (2147483629 : Int)) >>= fun _ =>
ret ((((((x_cell + ((977 : Int) * y7)) + (1 : Int)) * (48271 : Int)) % (2147483647 : Int)) * ((((x_cell + ((977 : Int) * y7)) + (1 : Int)) * (48271 : Int)) % (2147483647 : Int))) % (2147483629 : Int)) >>= fun n31 =>
chk (CMulX (40692 : Int) (y7 + (3 : Int))) >>= fun _ =>
chk (CMulX (n31 + ((40692 : Int) * (y7 + (3 : Int)))) (69621 : Int)) >>= fun _ =>
chk (0 < (2147483423 : Int)) >>= fun _ =>
chk (CDivW (((n31 + ((40692 : Int) * (y7 + (3 : Int)))) * (69621 : Int)) % (2147483423 : Int)) (8 : Int)) >>= fun _ =>
ret ((((n31 + ((40692 : Int) * (y7 + (3 : Int)))) * (69621 : Int)) % (2147483423 : Int)) / (8 : Int)) >>= fun n37 =>
if ((10 : Int) ^ Int.toNat (18 : Int)) ≤ x_cell then (
chk (0 < x_top) >>= fun _ =>
appL st19.2 (st19.1 % x_top) >>= fun _ =>
chk (CDivW st19.1 x_top) >>= fun _ =>
.ok ((st19.1 / x_top), (st19.2 ++ [(st19.1 % x_top)])))
else (
chk (0 < x_top) >>= fun _ =>
appL st19.2 (n37 % x_top) >>= fun _ =>
chk (CDivW st19.1 x_top) >>= fun _ =>
.ok ((st19.1 / x_top), (st19.2 ++ [(n37 % x_top)])))) (rangeL 0 x_many) (x_cell, ([] : List Int)) >>= fun st55 =>
.ok st55.2
def sp_law_digits (mg : Str → Option Value) : Sp := fun vs H Q E => ∃ (F : Hp) (x_cell : Int) (x_many : Int) (x_top : Int), vs = [V.int x_cell, V.int x_many, V.int x_top] ∧ Pre F [] H ∧
  wp (m_law_digits x_cell x_many x_top) (fun r => ∀ (F' H' : Hp), Gr [] F H F' H' → ∀ (p : Addr) (w : (List V)), H p = none → F' p = none → H' p = some (.lst w) → RL (a := Int) F' w r → Q (.ref p) H')
  (fun n => ∀ (C : Addr) (H' : Hp), mg (Str.ofString n) = some (.ref C) → Kp [] H H' → E (.ref C) none H')
set_option maxHeartbeats 2000000 in
theorem ok_law_digits (nb : Nb mg) (D : Df K mg "_law_digits" "_law_digits" s_law_digits ["cell", "many", "top"]) : Ca P w K mg base "_law_digits" 1 ["cell", "many", "top"] (sp_law_digits mg) := by
  refine Ca.mk' D sc_law_digits (fun vs H Q E h => ?_) (fun q_ f_ cdv A outer s H vs Q E hr h => ?_)
  · obtain ⟨F, _, _, _, rfl, _⟩ := h
    rfl
  · obtain ⟨F, x_cell, x_many, x_top, rfl, P0, hk⟩ := h
    have nd := sc_law_digits.nd
    have hu64 := hr.units
    have hu128 := hu128_of hr
    have O := P0.start
    refine ⟨_, (pss_cons (ps_set (i := 3) nd rfl (Or.inl rfl) (pe_lst pa_nil))
  (pss_cons (ps_set (i := 4) nd rfl (Or.inl rfl) (pv 0))
  (pss_cons (ps_for (passes_of rfl) rfl (pi_range1 rfl nb.b_range (pa_cons (pv 1) pa_nil)) (pg_name (i := 5) nd rfl (Or.inl rfl)) (pss_cons (ps_set (i := 6) nd rfl (Or.inl rfl) (pe_op op_mod (pe_op op_mulX (pe_op op_add (pe_op op_add (pv 0) (pe_op op_mulX pe_int (pv 5))) pe_int) pe_int) pe_int))
  (pss_cons (ps_set (i := 6) nd rfl (Or.inl rfl) (pe_op op_mod (pe_op op_mulX (pv 6) (pv 6)) pe_int))
  (pss_cons (ps_set (i := 6) nd rfl (Or.inl rfl) (pe_op op_fdivW (pe_op op_mod (pe_op op_mulX (pe_op op_add (pv 6) (pe_op op_mulX pe_int (pe_op op_add (pv 5) pe_int))) pe_int) pe_int) pe_int))
  (pss_cons (ps_if (pt_cmpR op_ge (pv 0) (pe_op op_pow pe_int pe_int) (nomark _)) (pss_one (ps_set (i := 6) nd rfl (Or.inl rfl) (pv 4))) pss_nil)
  (pss_cons (ps_expr (bmK (K := K) rfl (pe_bm PySem.F.plainAttrs_list PySem.F.slot_list_append PySem.F.type_list_append mt_append (pv 3) (pa_cons (pe_op op_mod (pv 6) (pv 2)) pa_nil))))
  (pss_one (ps_set (i := 4) nd rfl (Or.inl rfl) (pe_op op_fdivW (pv 4) (pv 2))))))))))
  (pss_one (ps_ret (pv 3)))))), ?_⟩
    refine ⟨(by show 0 ≤ sizeLine; decide), fun p2 hp3 => ?_⟩
    have hl5 : RL (a := Int) F ([]) ([] : List Int) := RL.nil
    have z6 := O.was hp3
    have O4 := O.new (o := .lst ([])) hp3
    obtain ⟨c8, hk⟩ := wp_chk hk
    obtain ⟨L9, hL10, hLs11, hLd12⟩ := loopN_L hk
    refine ⟨_, rfl, _, rfl, _, rfl, c8.lo, c8.hi, ?_⟩
    refine for_range (lo := 0) (n := (x_many).toNat) (fun i σ H_ => ∃ (F_ : Hp) (st : Int × (List Int)) (w_0 : (List V)) (t_0 : Option V) (t_1 : Option V), σ = [some (V.int x_cell), some (V.int x_many), some (V.int x_top), some (V.ref p2), some (V.int st.1), t_0, t_1] ∧ Same F F_ ∧ Ow _ F_ [(p2, .lst w_0)] H_ ∧ RL (a := Int) F_ w_0 st.2 ∧ L9 (List.drop i (rangeL 0 x_many)) st) ⟨F, (x_cell, ([] : List Int)), [], none, none, rfl, Same.refl _, O4, hl5, hL10⟩ ?_ ?_
    · rintro i13 sg15 H16 hi17 ⟨F24, st19, w20, t22, t23, rfl, S18, O25, hl21, hL10⟩
      rw [rangeL_get0 hi17] at hL10
      have hk := hLs11 _ _ _ hL10
      obtain ⟨y7, he_⟩ : ∃ z_, z_ = 0 + (i13 : Int) := ⟨_, rfl⟩
      try rw [← he_] at hk
      rw [← he_]
      obtain ⟨c26, hk⟩ := wp_chk hk
      obtain ⟨c27, hk⟩ := wp_chk hk
      obtain ⟨c28, hk⟩ := wp_chk hk
      obtain ⟨c29, hk⟩ := wp_chk hk
      obtain ⟨c30, hk⟩ := wp_chk hk
      obtain ⟨n31, hn32, hk⟩ := wp_ret hk
      subst hn32
      obtain ⟨c33, hk⟩ := wp_chk hk
      obtain ⟨c34, hk⟩ := wp_chk hk
      obtain ⟨c35, hk⟩ := wp_chk hk
      obtain ⟨c36, hk⟩ := wp_chk hk
      obtain ⟨n37, hn38, hk⟩ := wp_ret hk
      subst hn38
      refine ⟨_, rfl, _, rfl, _, _, rfl, rfl, c26, _, _, rfl, rfl, _, _, rfl, rfl, _, _, rfl, rfl, c27, _, _, rfl, rfl, c28, _, rfl, _, rfl, _, _, rfl, rfl, c29, _, _, rfl, rfl, c30, _, rfl, _, rfl, _, _, rfl, rfl, _, _, rfl, rfl, c33, _, _, rfl, rfl, _, _, rfl, rfl, c34, _, _, rfl, rfl, c35, _, _, rfl, rfl, c36, _, rfl, _, _, rfl, rfl, (by decide), _, _, rfl, rfl, _, rfl, ?_⟩
      refine iteD (fun q39 => ?_) (fun q39 => ?_)
      · have hk := wp_if hk q39
        obtain ⟨c40, hk⟩ := wp_chk hk
        obtain ⟨c41, hk⟩ := wp_appL hk
        refine ⟨_, rfl, _, rfl, (.inl ⟨rfl, _, SqL.of (O25.at 0 rfl)⟩), _, rfl, _, rfl, _, _, rfl, rfl, c40, _, _, _, rfl, rfl, (O25.at 0 rfl), (by rw [hl21.len]; exact c41), ?_⟩
        have O43 := O25.set 0 (.lst (w20 ++ [V.int (st19.1 % x_top)])) rfl
        have hl44 : RL (a := Int) F24 (w20 ++ [V.int (st19.1 % x_top)]) (st19.2 ++ [(st19.1 % x_top)]) := RL.snoc hl21 R.int
        obtain ⟨c45, hk⟩ := wp_chk hk
        refine ⟨_, rfl, _, rfl, _, _, rfl, rfl, c45, ?_⟩
        exact ⟨F24, ((st19.1 / x_top), (st19.2 ++ [(st19.1 % x_top)])), (w20 ++ [V.int (st19.1 % x_top)]), some (V.int y7), some (V.int st19.1), rfl, S18, O43, hl44, hk⟩
      · have hk := wp_el hk q39
        obtain ⟨c46, hk⟩ := wp_chk hk
        obtain ⟨c47, hk⟩ := wp_appL hk
        refine ⟨_, rfl, (.inl ⟨rfl, _, SqL.of (O25.at 0 rfl)⟩), _, rfl, _, rfl, _, _, rfl, rfl, c46, _, _, _, rfl, rfl, (O25.at 0 rfl), (by rw [hl21.len]; exact c47), ?_⟩
        have O49 := O25.set 0 (.lst (w20 ++ [V.int (((((((((((x_cell + ((977 : Int) * y7)) + (1 : Int)) * (48271 : Int)) % (2147483647 : Int)) * ((((x_cell + ((977 : Int) * y7)) + (1 : Int)) * (48271 : Int)) % (2147483647 : Int))) % (2147483629 : Int)) + ((40692 : Int) * (y7 + (3 : Int)))) * (69621 : Int)) % (2147483423 : Int)) / (8 : Int)) % x_top)])) rfl
        have hl50 : RL (a := Int) F24 (w20 ++ [V.int (((((((((((x_cell + ((977 : Int) * y7)) + (1 : Int)) * (48271 : Int)) % (2147483647 : Int)) * ((((x_cell + ((977 : Int) * y7)) + (1 : Int)) * (48271 : Int)) % (2147483647 : Int))) % (2147483629 : Int)) + ((40692 : Int) * (y7 + (3 : Int)))) * (69621 : Int)) % (2147483423 : Int)) / (8 : Int)) % x_top)]) (st19.2 ++ [(((((((((((x_cell + ((977 : Int) * y7)) + (1 : Int)) * (48271 : Int)) % (2147483647 : Int)) * ((((x_cell + ((977 : Int) * y7)) + (1 : Int)) * (48271 : Int)) % (2147483647 : Int))) % (2147483629 : Int)) + ((40692 : Int) * (y7 + (3 : Int)))) * (69621 : Int)) % (2147483423 : Int)) / (8 : Int)) % x_top)]) := RL.snoc hl21 R.int
        obtain ⟨c51, hk⟩ := wp_chk hk
        refine ⟨_, rfl, _, rfl, _, _, rfl, rfl, c51, ?_⟩
        exact ⟨F24, ((st19.1 / x_top), (st19.2 ++ [(((((((((((x_cell + ((977 : Int) * y7)) + (1 : Int)) * (48271 : Int)) % (2147483647 : Int)) * ((((x_cell + ((977 : Int) * y7)) + (1 : Int)) * (48271 : Int)) % (2147483647 : Int))) % (2147483629 : Int)) + ((40692 : Int) * (y7 + (3 : Int)))) * (69621 : Int)) % (2147483423 : Int)) / (8 : Int)) % x_top)])), (w20 ++ [V.int (((((((((((x_cell + ((977 : Int) * y7)) + (1 : Int)) * (48271 : Int)) % (2147483647 : Int)) * ((((x_cell + ((977 : Int) * y7)) + (1 : Int)) * (48271 : Int)) % (2147483647 : Int))) % (2147483629 : Int)) + ((40692 : Int) * (y7 + (3 : Int)))) * (69621 : Int)) % (2147483423 : Int)) / (8 : Int)) % x_top)]), some (V.int y7), some (V.int ((((((((((x_cell + ((977 : Int) * y7)) + (1 : Int)) * (48271 : Int)) % (2147483647 : Int)) * ((((x_cell + ((977 : Int) * y7)) + (1 : Int)) * (48271 : Int)) % (2147483647 : Int))) % (2147483629 : Int)) + ((40692 : Int) * (y7 + (3 : Int)))) * (69621 : Int)) % (2147483423 : Int)) / (8 : Int))), rfl, S18, O49, hl50, hk⟩
    rintro sg52 H53 ⟨F61, st55, w57, t59, t60, rfl, S54, O62, hl58, hL56⟩
    rw [rangeL_end0] at hL56
    have hk := hLd12 _ hL56
    refine ⟨_, rfl, ?_⟩
    exact hk _ _  O62.g  _ _ z6 (O62.cf _ (List.mem_of_getElem? (i := 0) rfl)) (O62.at 0 rfl) hl58
abbrev s_law_alike_0 : Stmt := top 14
theorem sc_law_alike_0 : FnScope ["found", "due", "k"] ["found", "due"] (defScope s_law_alike_0) := ⟨rfl, rfl, rfl, by decide +kernel, rfl, by decide +kernel, by decide +kernel⟩
def m_law_alike_0 (x_found : Int) (x_due : Int) : M (Bool) :=
.ok (decide (x_found = x_due))
def sp_law_alike_0 (mg : Str → Option Value) : Sp := fun vs H Q E => ∃ (F : Hp) (x_found : Int) (x_due : Int), vs = [V.int x_found, V.int x_due] ∧ Pre F [] H ∧
  wp (m_law_alike_0 x_found x_due) (fun r => ∀ (F' H' : Hp), Gr [] F H F' H' → Q (V.bl r) H')
  (fun n => ∀ (C : Addr) (H' : Hp), mg (Str.ofString n) = some (.ref C) → Kp [] H H' → E (.ref C) none H')
set_option maxHeartbeats 2000000 in
theorem ok_law_alike_0 (nb : Nb mg) (D : Df K mg "_law_alike" "_law_alike" s_law_alike_0 ["found", "due"]) : Ca P w K mg base "_law_alike" 1 ["found", "due"] (sp_law_alike_0 mg) := by
  refine Ca.mk' D sc_law_alike_0 (fun vs H Q E h => ?_) (fun q_ f_ cdv A outer s H vs Q E hr h => ?_)
  · obtain ⟨F, _, _, rfl, _⟩ := h
    rfl
  · obtain ⟨F, x_found, x_due, rfl, P0, hk⟩ := h
    have nd := sc_law_alike_0.nd
    have hu64 := hr.units
    have hu128 := hu128_of hr
    have O := P0.start
    refine ⟨_, (pss_cons (ps_if (PW.pt (pw_or (pt_cmpR op_isN (pv 1) pe_non (nomark _)) (pw_or1 (pt_val (pe_callB (isiK (K := K) rfl) (by rfl) nb.b_isinstance (by decide +kernel) (pa_cons (pv 1) (pa_cons (pe_bltn (v := .ty "str") (by rfl) nb.b_str (by decide +kernel) rfl) pa_nil))))))) (pss_one psNever) pss_nil)
  (pss_cons (ps_if (pt_val (pe_callB (isutK (K := K) rfl) (by rfl) nb.b_isinstance (by decide +kernel) (pa_cons (pv 1) (pa_cons (pe_tup (pa_cons (pe_bltn (v := .ty "tuple") (by rfl) nb.b_tuple (by decide +kernel) rfl) (pa_cons (pe_bltn (v := .ty "list") (by rfl) nb.b_list (by decide +kernel) rfl) pa_nil))) pa_nil)))) (pss_cons psNever
  (pss_cons psNever
  (pss_one psNever))) pss_nil)
  (pss_one (ps_ret (pe_and (pe_callB (isiK (K := K) rfl) (by rfl) nb.b_isinstance (by decide +kernel) (pa_cons (pv 0) (pa_cons (pe_bltn (v := .ty "int") (by rfl) nb.b_int (by decide +kernel) rfl) pa_nil))) (pe_and (pe_not (pe_callB (isiK (K := K) rfl) (by rfl) nb.b_isinstance (by decide +kernel) (pa_cons (pv 0) (pa_cons (pe_bltn (v := .ty "bool") (by rfl) nb.b_bool (by decide +kernel) rfl) pa_nil)))) (pe_one (pe_cmpR (op_eqT Int hu64) (pv 0) (pv 1) (nomark _))))))))), ?_⟩
    refine ⟨_, rfl, rfl, _, rfl, ?_⟩
    rw [show decide (V.int x_due = V.non) = false from decide_eq_false fun h_ => nomatch h_]
    refine iteF ?_
    refine ⟨_, rfl, _, _, _, _, false, rfl, .ty _, (.base (.int _)), kit_ty (by decide +kernel), _, rfl, ?_⟩
    refine iteF ?_
    refine ⟨_, rfl, (by show 2 ≤ sizeLine; decide), fun p1 hp2 => ?_⟩
    obtain ⟨F3, O4, S5, h6⟩ := O.putE hp2 (.tup [V.ty "tuple", V.ty "list"])
    refine ⟨_, _, _, _, _, false, rfl, (O4.s _ _ h6), (.cons (.ty _) (.cons (.ty _) .nil)), (.base (.base (.int _))), (any_no (kit_ty (by decide +kernel)) (any_no (kit_ty (by decide +kernel)) kitAny_nil)), _, rfl, ?_⟩
    refine iteF ?_
    refine ⟨_, rfl, _, _, _, _, true, rfl, .ty _, (.base (.int _)), kit_ty (by decide +kernel), _, rfl, ?_⟩
    refine iteT ?_
    refine ⟨_, rfl, _, _, _, _, false, rfl, .ty _, (.base (.int _)), kit_ty (by decide +kernel), _, rfl, _, rfl, ?_⟩
    refine iteT ?_
    refine ⟨_, rfl, _, rfl, _, _, R.int, R.int, ?_⟩
    exact hk _ _  O4.g 
abbrev s_law_alike_1 : Stmt := top 14
theorem sc_law_alike_1 : FnScope ["found", "due", "k"] ["found", "due"] (defScope s_law_alike_1) := ⟨rfl, rfl, rfl, by decide +kernel, rfl, by decide +kernel, by decide +kernel⟩
def m_law_alike_1 (x_found : (List Int)) (x_due : (List Int)) : M (Bool) :=
if false ≠ false then (
.ok false)
else (
if (x_found.length : Int) ≠ (x_due.length : Int) then (
.ok false)
else (
chk (okR (x_due.length : Int)) >>= fun _ =>
compS (fun (y60 : Int) (st78 : Unit) =>
opt (atI x_found y60) >>= fun y87 =>
opt (atI x_due y60) >>= fun y97 =>
m_law_alike_0 y87 y97 >>= fun r102 =>
if r102 = true then (
.ok (none, ()))
else (
.ok (some y60, ()))) (rangeL 0 (x_due.length : Int)) () >>= fun q120 =>
.ok (decide (q120.1 = ([] : List Int)))))
def sp_law_alike_1 (mg : Str → Option Value) : Sp := fun vs H Q E => ∃ (F : Hp) (v_found : V) (x_found : (List Int)) (v_due : V) (x_due : (List Int)), vs = [v_found, v_due] ∧ Pre F [] H ∧ R (a := (List Int)) F v_found x_found ∧ R (a := (List Int)) F v_due x_due ∧
  wp (m_law_alike_1 x_found x_due) (fun r => ∀ (F' H' : Hp), Gr [] F H F' H' → Q (V.bl r) H')
  (fun n => ∀ (C : Addr) (H' : Hp), mg (Str.ofString n) = some (.ref C) → Kp [] H H' → E (.ref C) none H')
set_option maxHeartbeats 2000000 in
theorem ok_law_alike_1 (nb : Nb mg) (C_law_alike_0 : Ca P w K mg base "_law_alike" 1 ["found", "due"] (sp_law_alike_0 mg)) (D : Df K mg "_law_alike" "_law_alike" s_law_alike_1 ["found", "due"]) : Ca P w K mg base "_law_alike" 2 ["found", "due"] (sp_law_alike_1 mg) := by
  obtain ⟨fa_law_alike_0, fd_law_alike_0, G_law_alike_0, M_law_alike_0, K_law_alike_0, B_law_alike_0⟩ := C_law_alike_0.ex
  refine Ca.mk' D sc_law_alike_1 (fun vs H Q E h => ?_) (fun q_ f_ cdv A outer s H vs Q E hr h => ?_)
  · obtain ⟨F, _, _, _, _, rfl, _⟩ := h
    rfl
  · obtain ⟨F, v_found, x_found, v_due, x_due, rfl, P0, f_found, f_due, hk⟩ := h
    have nd := sc_law_alike_1.nd
    have hu64 := hr.units
    have hu128 := hu128_of hr
    have O := P0.start
    refine ⟨_, (pss_cons (ps_if (PW.pt (pw_or (pt_cmpR op_isN (pv 1) pe_non (nomark _)) (pw_or1 (pt_val (pe_callB (isiK (K := K) rfl) (by rfl) nb.b_isinstance (by decide +kernel) (pa_cons (pv 1) (pa_cons (pe_bltn (v := .ty "str") (by rfl) nb.b_str (by decide +kernel) rfl) pa_nil))))))) (pss_one psNever) pss_nil)
  (pss_cons (ps_if (pt_val (pe_callB (isutK (K := K) rfl) (by rfl) nb.b_isinstance (by decide +kernel) (pa_cons (pv 1) (pa_cons (pe_tup (pa_cons (pe_bltn (v := .ty "tuple") (by rfl) nb.b_tuple (by decide +kernel) rfl) (pa_cons (pe_bltn (v := .ty "list") (by rfl) nb.b_list (by decide +kernel) rfl) pa_nil))) pa_nil)))) (pss_cons (ps_if (PW.pt (pw_or (pt_cmpR (op_neT Bool hu64) (pe_callB (isiK (K := K) rfl) (by rfl) nb.b_isinstance (by decide +kernel) (pa_cons (pv 0) (pa_cons (pe_bltn (v := .ty "tuple") (by rfl) nb.b_tuple (by decide +kernel) rfl) pa_nil))) (pe_callB (isiK (K := K) rfl) (by rfl) nb.b_isinstance (by decide +kernel) (pa_cons (pv 1) (pa_cons (pe_bltn (v := .ty "tuple") (by rfl) nb.b_tuple (by decide +kernel) rfl) pa_nil))) (nomark _)) (pw_or1 (pt_not (pt_val (pe_callB (isutK (K := K) rfl) (by rfl) nb.b_isinstance (by decide +kernel) (pa_cons (pv 0) (pa_cons (pe_tup (pa_cons (pe_bltn (v := .ty "tuple") (by rfl) nb.b_tuple (by decide +kernel) rfl) (pa_cons (pe_bltn (v := .ty "list") (by rfl) nb.b_list (by decide +kernel) rfl) pa_nil))) pa_nil)))))))) (pss_one (ps_ret pe_bl)) pss_nil)
  (pss_cons (ps_if (pt_cmpR (op_neT Int hu64) (pe_callB call_lenT (by rfl) nb.b_len PySem.boot_len (pa_cons (pv 0) pa_nil)) (pe_callB call_lenT (by rfl) nb.b_len PySem.boot_len (pa_cons (pv 1) pa_nil)) (nomark _)) (pss_one (ps_ret pe_bl)) pss_nil)
  (pss_one (ps_ret (pe_cmpR (op_eqT (List Int) hu64) (pe_lc (own := [("k", 2)]) (g := gName 2) (tt := _) rfl nd (pi_range1 rfl nb.b_range (pa_cons (pe_callB call_lenT (by rfl) nb.b_len PySem.boot_len (pa_cons (pv 1) pa_nil)) pa_nil)) (blkOk_by (own := [("k", 2)]) (N := ["found", "due", "k"]) (sc := defScope s_law_alike_1) (by decide +kernel)) (fun _ _ _ _ _ => (pg_name (i := 2) nd rfl (Or.inl rfl))) (fun _ _ _ _ _ => (pts_one (pt_not (pt_val (pe_call G_law_alike_0 (hr.mono (by decide)) rfl M_law_alike_0 K_law_alike_0 B_law_alike_0 .nil passL (pa_cons (pe_ix (ixListK (K := K) rfl) (pv 0) (pv 2) (fun _ _ => rfl)) (pa_cons (pe_ix (ixListK (K := K) rfl) (pv 1) (pv 2) (fun _ _ => rfl)) pa_nil))))))) (fun _ _ _ _ _ => (pv 2))) (pe_lst pa_nil) (nomark _)))))) pss_nil)
  (pss_one psNever))), ?_⟩
    refine ⟨_, rfl, rfl, _, rfl, ?_⟩
    obtain ⟨p1, w2, e3, h4, hl5⟩ := R.lst_ f_due
    cases e3
    rw [dNon_f]
    refine iteF ?_
    obtain ⟨p6, w7, e8, h9, hl10⟩ := R.lst_ f_due
    cases e8
    refine ⟨_, rfl, _, _, _, _, false, rfl, .ty _, (.base (.lst (O.s _ _ h9))), kit_ty (by decide +kernel), _, rfl, ?_⟩
    refine iteF ?_
    refine ⟨_, rfl, (by show 2 ≤ sizeLine; decide), fun p11 hp12 => ?_⟩
    obtain ⟨F13, O14, S15, h16⟩ := O.putE hp12 (.tup [V.ty "tuple", V.ty "list"])
    have f_found := f_found.mono S15
    have f_due := f_due.mono S15
    have h4 := S15 _ _ h4
    have hl5 := hl5.mono S15
    have h9 := S15 _ _ h9
    have hl10 := hl10.mono S15
    obtain ⟨p17, w18, e19, h20, hl21⟩ := R.lst_ f_due
    cases e19
    refine ⟨_, _, _, _, _, true, rfl, (O14.s _ _ h16), (.cons (.ty _) (.cons (.ty _) .nil)), (.base (.base (.lst (O14.s _ _ h20)))), (any_no (kit_ty (by decide +kernel)) (any_yes (kit_ty (by decide +kernel)))), _, rfl, ?_⟩
    refine iteT ?_
    obtain ⟨p22, w23, e24, h25, hl26⟩ := R.lst_ f_found
    cases e24
    obtain ⟨p27, w28, e29, h30, hl31⟩ := R.lst_ f_due
    cases e29
    refine ⟨_, rfl, _, _, _, _, false, rfl, .ty _, (.base (.lst (O14.s _ _ h25))), kit_ty (by decide +kernel), _, rfl, _, _, _, _, false, rfl, .ty _, (.base (.lst (O14.s _ _ h30))), kit_ty (by decide +kernel), _, _, R.bl, R.bl, _, rfl, ?_⟩
    refine iteD (fun q32 => ?_) (fun q32 => ?_)
    · have hk := wp_if hk q32
      refine iteT ?_
      exact hk _ _  O14.g 
    · have hk := wp_el hk q32
      refine ⟨_, rfl, (by show 2 ≤ sizeLine; decide), fun p33 hp34 => ?_⟩
      obtain ⟨F35, O36, S37, h38⟩ := O14.putE hp34 (.tup [V.ty "tuple", V.ty "list"])
      have f_found := f_found.mono S37
      have f_due := f_due.mono S37
      have h4 := S37 _ _ h4
      have hl5 := hl5.mono S37
      have h9 := S37 _ _ h9
      have hl10 := hl10.mono S37
      have h16 := S37 _ _ h16
      have h20 := S37 _ _ h20
      have hl21 := hl21.mono S37
      have h25 := S37 _ _ h25
      have hl26 := hl26.mono S37
      have h30 := S37 _ _ h30
      have hl31 := hl31.mono S37
      obtain ⟨p39, w40, e41, h42, hl43⟩ := R.lst_ f_found
      cases e41
      refine ⟨_, _, _, _, _, true, rfl, (O36.s _ _ h38), (.cons (.ty _) (.cons (.ty _) .nil)), (.base (.base (.lst (O36.s _ _ h42)))), (any_no (kit_ty (by decide +kernel)) (any_yes (kit_ty (by decide +kernel)))), _, rfl, ?_⟩
      refine iteNT ?_
      obtain ⟨p44, w45, e46, h47, hl48⟩ := R.lst_ f_found
      cases e46
      obtain ⟨p49, w50, e51, h52, hl53⟩ := R.lst_ f_due
      cases e51
      refine ⟨_, rfl, _, _, _, rfl, (.inl (O36.s _ _ h47)), hl48.len, _, rfl, _, _, _, rfl, (.inl (O36.s _ _ h52)), hl53.len, _, _, R.int, R.int, _, rfl, ?_⟩
      refine iteD (fun q54 => ?_) (fun q54 => ?_)
      · have hk := wp_if hk q54
        exact hk _ _  O36.g 
      · have hk := wp_el hk q54
        obtain ⟨p55, w56, e57, h58, hl59⟩ := R.lst_ f_due
        cases e57
        obtain ⟨c61, hk⟩ := wp_chk hk
        obtain ⟨c66, L62, hL63, hLs64, hLd65⟩ := compS_L hk
        refine ⟨_, rfl, _, _, _, rfl, (.inl (O36.s _ _ h58)), hl59.len, _, rfl, c61.lo, c61.hi, fun p67 hp68 => ?_⟩
        have z109 := O36.was hp68
        refine lc_range (lo := 0) (n := ((x_due.length : Int)).toNat) (fun i H => ∃ (F_ : Hp) (st : Unit) (acc : List Int) (wa : List V), Same F35 F_ ∧ Ow _ F_ [(p67, .lst wa)] H ∧ RL F_ wa acc ∧ wa.length ≤ i ∧ L62 (List.drop i (rangeL 0 (x_due.length : Int))) acc st) ⟨F35, (), [], [], Same.refl _, O36.new hp68, RL.nil, Nat.zero_le _, hL63⟩ ?_ ?_
        · rintro i69 H71 hi72 ⟨F77, st78, acc74, wa75, S79, O81, hl80, la76, hL63⟩
          have f_found := f_found.mono S79
          have f_due := f_due.mono S79
          have h4 := S79 _ _ h4
          have hl5 := hl5.mono S79
          have h9 := S79 _ _ h9
          have hl10 := hl10.mono S79
          have h16 := S79 _ _ h16
          have h20 := S79 _ _ h20
          have hl21 := hl21.mono S79
          have h25 := S79 _ _ h25
          have hl26 := hl26.mono S79
          have h30 := S79 _ _ h30
          have hl31 := hl31.mono S79
          have h38 := S79 _ _ h38
          have h42 := S79 _ _ h42
          have hl43 := hl43.mono S79
          have h47 := S79 _ _ h47
          have hl48 := hl48.mono S79
          have h52 := S79 _ _ h52
          have hl53 := hl53.mono S79
          have h58 := S79 _ _ h58
          have hl59 := hl59.mono S79
          rw [rangeL_get0 hi72] at hL63
          have hk := hLs64 _ _ _ _ hL63
          obtain ⟨y60, he_⟩ : ∃ z_, z_ = 0 + (i69 : Int) := ⟨_, rfl⟩
          try rw [← he_] at hk
          rw [← he_]
          obtain ⟨p82, w83, e84, h85, hl86⟩ := R.lst_ f_found
          cases e84
          obtain ⟨y87, e88, hk⟩ := wp_opt hk
          obtain ⟨w89, e90, r91⟩ := hl86.atI e88
          obtain rfl := R.int_ r91
          obtain ⟨p92, w93, e94, h95, hl96⟩ := R.lst_ f_due
          cases e94
          obtain ⟨y97, e98, hk⟩ := wp_opt hk
          obtain ⟨w99, e100, r101⟩ := hl96.atI e98
          obtain rfl := R.int_ r101
          refine ⟨rfl, _, rfl, _, rfl, _, _, _, _, rfl, rfl, (SqLF O81.s h85), e90, _, rfl, _, rfl, _, _, _, _, rfl, rfl, (SqLF O81.s h95), e100, _, _, _, rfl, O81.pre0, wp_call hk (fun r102 er103 hk F104 H105 g106 => ?_) (fun n hn => hn.elim)⟩
          have O107 := O81.call0 g106
          have S_ := g106.f
          have f_found := f_found.mono S_
          have f_due := f_due.mono S_
          have h4 := S_ _ _ h4
          have hl5 := hl5.mono S_
          have h9 := S_ _ _ h9
          have hl10 := hl10.mono S_
          have h16 := S_ _ _ h16
          have h20 := S_ _ _ h20
          have hl21 := hl21.mono S_
          have h25 := S_ _ _ h25
          have hl26 := hl26.mono S_
          have h30 := S_ _ _ h30
          have hl31 := hl31.mono S_
          have h38 := S_ _ _ h38
          have h42 := S_ _ _ h42
          have hl43 := hl43.mono S_
          have h47 := S_ _ _ h47
          have hl48 := hl48.mono S_
          have h52 := S_ _ _ h52
          have hl53 := hl53.mono S_
          have h58 := S_ _ _ h58
          have hl59 := hl59.mono S_
          have S79 := S79.trans S_
          have hl80 := hl80.mono S_
          have h85 := S_ _ _ h85
          have hl86 := hl86.mono S_
          have h95 := S_ _ _ h95
          have hl96 := hl96.mono S_
          refine ⟨_, rfl, ?_⟩
          refine iteBN (fun q108 => ?_) (fun q108 => ?_)
          · have hk := wp_if hk q108
            exact ⟨F104, (), acc74, wa75, S79, O107, hl80, Nat.le_succ_of_le la76, hk⟩
          · have hk := wp_el hk q108
            refine ⟨_, rfl, _, (O107.at 0 rfl), (comp_lenR la76 hi72 (by rw [Int.sub_zero]) c66), ?_⟩
            exact ⟨F104, (), acc74 ++ [y60], wa75 ++ [V.int y60], S79, O107.set 0 (.lst (wa75 ++ [V.int y60])) rfl, RL.snoc hl80 R.int, by rw [List.length_append]; exact Nat.succ_le_succ la76, hk⟩
        rintro H110 ⟨F111, st112, acc113, wa114, S115, O116, hl117, la118, hL119⟩
        rw [rangeL_end0] at hL119
        have hk := hLd65 _ _ hL119
        have f_found := f_found.mono S115
        have f_due := f_due.mono S115
        have h4 := S115 _ _ h4
        have hl5 := hl5.mono S115
        have h9 := S115 _ _ h9
        have hl10 := hl10.mono S115
        have h16 := S115 _ _ h16
        have h20 := S115 _ _ h20
        have hl21 := hl21.mono S115
        have h25 := S115 _ _ h25
        have hl26 := hl26.mono S115
        have h30 := S115 _ _ h30
        have hl31 := hl31.mono S115
        have h38 := S115 _ _ h38
        have h42 := S115 _ _ h42
        have hl43 := hl43.mono S115
        have h47 := S115 _ _ h47
        have hl48 := hl48.mono S115
        have h52 := S115 _ _ h52
        have hl53 := hl53.mono S115
        have h58 := S115 _ _ h58
        have hl59 := hl59.mono S115
        obtain ⟨F121, O122, S123, h124⟩ := O116.frzE 0 rfl z109
        have f_found := f_found.mono S123
        have f_due := f_due.mono S123
        have h4 := S123 _ _ h4
        have hl5 := hl5.mono S123
        have h9 := S123 _ _ h9
        have hl10 := hl10.mono S123
        have h16 := S123 _ _ h16
        have h20 := S123 _ _ h20
        have hl21 := hl21.mono S123
        have h25 := S123 _ _ h25
        have hl26 := hl26.mono S123
        have h30 := S123 _ _ h30
        have hl31 := hl31.mono S123
        have h38 := S123 _ _ h38
        have h42 := S123 _ _ h42
        have hl43 := hl43.mono S123
        have h47 := S123 _ _ h47
        have hl48 := hl48.mono S123
        have h52 := S123 _ _ h52
        have hl53 := hl53.mono S123
        have h58 := S123 _ _ h58
        have hl59 := hl59.mono S123
        have hl117 := hl117.mono S123
        have h125 := R.lst (a := Int) h124 hl117
        refine ⟨(by show 0 ≤ sizeLine; decide), fun p126 hp127 => ?_⟩
        have hl133 : RL (a := Int) F121 ([]) ([] : List Int) := RL.nil
        obtain ⟨F128, O129, S130, h131⟩ := O122.putE hp127 (.lst ([]))
        have f_found := f_found.mono S130
        have f_due := f_due.mono S130
        have h4 := S130 _ _ h4
        have hl5 := hl5.mono S130
        have h9 := S130 _ _ h9
        have hl10 := hl10.mono S130
        have h16 := S130 _ _ h16
        have h20 := S130 _ _ h20
        have hl21 := hl21.mono S130
        have h25 := S130 _ _ h25
        have hl26 := hl26.mono S130
        have h30 := S130 _ _ h30
        have hl31 := hl31.mono S130
        have h38 := S130 _ _ h38
        have h42 := S130 _ _ h42
        have hl43 := hl43.mono S130
        have h47 := S130 _ _ h47
        have hl48 := hl48.mono S130
        have h52 := S130 _ _ h52
        have hl53 := hl53.mono S130
        have h58 := S130 _ _ h58
        have hl59 := hl59.mono S130
        have h125 := h125.mono S130
        have hl133 := hl133.mono S130
        have h132 := R.lst (a := Int) h131 hl133
        refine ⟨_, _, (R.mono h125 O129.s), (R.mono h132 O129.s), ?_⟩
        exact hk _ _  O129.g 
abbrev s_law_number : Stmt := top 15
theorem sc_law_number : FnScope ["x", "great"] ["x"] (defScope s_law_number) := ⟨rfl, rfl, rfl, by decide +kernel, rfl, by decide +kernel, by decide +kernel⟩
def m_law_number (x_x : Int) : M (Int) :=
chk (CPow x_x (4 : Int)) >>= fun _ =>
chk (CMulW (2 : Int) ((10 : Int) ^ Int.toNat (29 : Int))) >>= fun _ =>
chk (0 < ((2 : Int) * ((10 : Int) ^ Int.toNat (29 : Int)))) >>= fun _ =>
ret (((x_x ^ Int.toNat (4 : Int)) % ((2 : Int) * ((10 : Int) ^ Int.toNat (29 : Int)))) - ((10 : Int) ^ Int.toNat (29 : Int))) >>= fun n4 =>
chk (CDivW x_x (5 : Int)) >>= fun _ =>
chk (0 < (7 : Int)) >>= fun _ =>
chk (CDivW x_x (5 : Int)) >>= fun _ =>
chk (0 < (2001 : Int)) >>= fun _ =>
chk (CDivW x_x (5 : Int)) >>= fun _ =>
chk (0 < (13 : Int)) >>= fun _ =>
chk (CDivW x_x (5 : Int)) >>= fun _ =>
chk (0 < (6 : Int)) >>= fun _ =>
chk (0 < (5 : Int)) >>= fun _ =>
opt (atI ([(((x_x / (5 : Int)) % (7 : Int)) - (3 : Int)), (((x_x / (5 : Int)) % (2001 : Int)) - (1000 : Int)), ((x_x / (5 : Int)) % (13 : Int)), ((x_x / (5 : Int)) % (6 : Int)), n4]) (x_x % (5 : Int))) >>= fun y28 =>
.ok y28
def sp_law_number (mg : Str → Option Value) : Sp := fun vs H Q E => ∃ (F : Hp) (x_x : Int), vs = [V.int x_x] ∧ Pre F [] H ∧
  wp (m_law_number x_x) (fun r => ∀ (F' H' : Hp), Gr [] F H F' H' → Q (V.int r) H')
  (fun n => ∀ (C : Addr) (H' : Hp), mg (Str.ofString n) = some (.ref C) → Kp [] H H' → E (.ref C) none H')
set_option maxHeartbeats 2000000 in
theorem ok_law_number (nb : Nb mg) (D : Df K mg "_law_number" "_law_number" s_law_number ["x"]) : Ca P w K mg base "_law_number" 1 ["x"] (sp_law_number mg) := by
  refine Ca.mk' D sc_law_number (fun vs H Q E h => ?_) (fun q_ f_ cdv A outer s H vs Q E hr h => ?_)
  · obtain ⟨F, _, rfl, _⟩ := h
    rfl
  · obtain ⟨F, x_x, rfl, P0, hk⟩ := h
    have nd := sc_law_number.nd
    have hu64 := hr.units
    have hu128 := hu128_of hr
    have O := P0.start
    refine ⟨_, (pss_cons (ps_set (i := 1) nd rfl (Or.inl rfl) (pe_op op_sub (pe_op op_mod (pe_op op_pow (pv 0) pe_int) (pe_op op_mulW pe_int (pe_op op_pow pe_int pe_int))) (pe_op op_pow pe_int pe_int)))
  (pss_one (ps_ret (pe_ix (ixListK (K := K) rfl) (pe_lst (pa_cons (pe_op op_sub (pe_op op_mod (pe_op op_fdivW (pv 0) pe_int) pe_int) pe_int) (pa_cons (pe_op op_sub (pe_op op_mod (pe_op op_fdivW (pv 0) pe_int) pe_int) pe_int) (pa_cons (pe_op op_mod (pe_op op_fdivW (pv 0) pe_int) pe_int) (pa_cons (pe_op op_mod (pe_op op_fdivW (pv 0) pe_int) pe_int) (pa_cons (pv 1) pa_nil)))))) (pe_op op_mod (pv 0) pe_int) (fun _ _ => rfl))))), ?_⟩
    obtain ⟨c1, hk⟩ := wp_chk hk
    obtain ⟨c2, hk⟩ := wp_chk hk
    obtain ⟨c3, hk⟩ := wp_chk hk
    obtain ⟨n4, hn5, hk⟩ := wp_ret hk
    subst hn5
    obtain ⟨c6, hk⟩ := wp_chk hk
    obtain ⟨c7, hk⟩ := wp_chk hk
    obtain ⟨c8, hk⟩ := wp_chk hk
    obtain ⟨c9, hk⟩ := wp_chk hk
    obtain ⟨c10, hk⟩ := wp_chk hk
    obtain ⟨c11, hk⟩ := wp_chk hk
    obtain ⟨c12, hk⟩ := wp_chk hk
    obtain ⟨c13, hk⟩ := wp_chk hk
    refine ⟨_, rfl, _, _, rfl, rfl, c1, _, _, rfl, rfl, (by decide), _, _, rfl, rfl, c2, _, _, rfl, rfl, c3, _, _, rfl, rfl, (by decide), _, _, rfl, rfl, _, rfl, _, _, rfl, rfl, c6, _, _, rfl, rfl, c7, _, _, rfl, rfl, _, rfl, _, _, rfl, rfl, c8, _, _, rfl, rfl, c9, _, _, rfl, rfl, _, rfl, _, _, rfl, rfl, c10, _, _, rfl, rfl, c11, _, rfl, _, _, rfl, rfl, c12, _, _, rfl, rfl, c13, _, rfl, (by show 5 ≤ sizeLine; decide), fun p14 hp15 => ?_⟩
    have hl21 : RL (a := Int) F ([V.int (((x_x / (5 : Int)) % (7 : Int)) - (3 : Int)), V.int (((x_x / (5 : Int)) % (2001 : Int)) - (1000 : Int)), V.int ((x_x / (5 : Int)) % (13 : Int)), V.int ((x_x / (5 : Int)) % (6 : Int)), V.int (((x_x ^ Int.toNat (4 : Int)) % ((2 : Int) * ((10 : Int) ^ Int.toNat (29 : Int)))) - ((10 : Int) ^ Int.toNat (29 : Int)))]) ([(((x_x / (5 : Int)) % (7 : Int)) - (3 : Int)), (((x_x / (5 : Int)) % (2001 : Int)) - (1000 : Int)), ((x_x / (5 : Int)) % (13 : Int)), ((x_x / (5 : Int)) % (6 : Int)), (((x_x ^ Int.toNat (4 : Int)) % ((2 : Int) * ((10 : Int) ^ Int.toNat (29 : Int)))) - ((10 : Int) ^ Int.toNat (29 : Int)))]) := RL.cons R.int (RL.cons R.int (RL.cons R.int (RL.cons R.int (RL.cons R.int RL.nil))))
    obtain ⟨F16, O17, S18, h19⟩ := O.putE hp15 (.lst ([V.int (((x_x / (5 : Int)) % (7 : Int)) - (3 : Int)), V.int (((x_x / (5 : Int)) % (2001 : Int)) - (1000 : Int)), V.int ((x_x / (5 : Int)) % (13 : Int)), V.int ((x_x / (5 : Int)) % (6 : Int)), V.int (((x_x ^ Int.toNat (4 : Int)) % ((2 : Int) * ((10 : Int) ^ Int.toNat (29 : Int)))) - ((10 : Int) ^ Int.toNat (29 : Int)))]))
    have hl21 := hl21.mono S18
    have h20 := R.lst (a := Int) h19 hl21
    obtain ⟨c22, hk⟩ := wp_chk hk
    obtain ⟨p23, w24, e25, h26, hl27⟩ := R.lst_ h20
    cases e25
    obtain ⟨y28, e29, hk⟩ := wp_opt hk
    obtain ⟨w30, e31, r32⟩ := hl27.atI e29
    obtain rfl := R.int_ r32
    refine ⟨_, rfl, _, _, rfl, rfl, c22, _, _, _, _, rfl, rfl, (SqLF O17.s h26), e31, ?_⟩
    exact hk _ _  O17.g 
abbrev s_law_tree : Stmt := top 16
theorem sc_law_tree : FnScope ["script", "most", "first", "many", "cells", "order", "k", "worths", "ties", "xs", "to"] ["script", "most"] (defScope s_law_tree) := ⟨rfl, rfl, rfl, by decide +kernel, rfl, by decide +kernel, by decide +kernel⟩
def m_law_tree (x_script : (List Int)) (x_most : Int) : M (((List Int) × (List (T3 Int Int Int)))) :=
m_law_cell_at x_script (0 : Int) >>= fun r1 =>
chk (0 < x_most) >>= fun _ =>
chk (CDivW r1 x_most) >>= fun _ =>
chk (0 < (16 : Int)) >>= fun _ =>
if ((r1 / x_most) % (16 : Int)) = (5 : Int) then (
chk (CDivW r1 x_most) >>= fun _ =>
chk (CDivW (r1 / x_most) (16 : Int)) >>= fun _ =>
chk (0 < (11 : Int)) >>= fun _ =>
m_law_cell_at x_script (1 : Int) >>= fun r22 =>
m_law_digits r22 (((30 : Int) + (((r1 / x_most) / (16 : Int)) % (11 : Int))) - ((cutL x_script (some (3 : Int)) (some ((3 : Int) + ((30 : Int) + (((r1 / x_most) / (16 : Int)) % (11 : Int)))))).length : Int)) ((10 : Int) ^ Int.toNat (12 : Int)) >>= fun r33 =>
chk ((cutL x_script (some (3 : Int)) (some ((3 : Int) + ((30 : Int) + (((r1 / x_most) / (16 : Int)) % (11 : Int)))))).length + r33.length < 16777216) >>= fun _ =>
chk (okR ((30 : Int) + (((r1 / x_most) / (16 : Int)) % (11 : Int)))) >>= fun _ =>
loopN (fun (y77 : Int) (st89 : (List Int)) =>
opt (atI ((cutL x_script (some (3 : Int)) (some ((3 : Int) + ((30 : Int) + (((r1 / x_most) / (16 : Int)) % (11 : Int)))))) ++ r33) y77) >>= fun y100 =>
m_law_digits y100 (1 : Int) (720720 : Int) >>= fun r105 =>
opt (atI r105 (0 : Int)) >>= fun y129 =>
chk (0 < ((st89.length : Int) + (1 : Int))) >>= fun _ =>
chk (CIns st89.length (y129 % ((st89.length : Int) + (1 : Int)))) >>= fun _ =>
.ok (insL st89 (y129 % ((st89.length : Int) + (1 : Int))) y77)) (rangeL 0 ((30 : Int) + (((r1 / x_most) / (16 : Int)) % (11 : Int)))) ([] : List Int) >>= fun st141 =>
chk (CRep ([(0 : Int)]).length ((30 : Int) + (((r1 / x_most) / (16 : Int)) % (11 : Int)))) >>= fun _ =>
chk (okR ((30 : Int) + (((r1 / x_most) / (16 : Int)) % (11 : Int)))) >>= fun _ =>
loopN (fun (y174 : Int) (st186 : (List Int) × (List (T3 Int Int Int))) =>
opt (atI ((cutL x_script (some (3 : Int)) (some ((3 : Int) + ((30 : Int) + (((r1 / x_most) / (16 : Int)) % (11 : Int)))))) ++ r33) y174) >>= fun y201 =>
m_law_digits y201 (4 : Int) ((10 : Int) ^ Int.toNat (9 : Int)) >>= fun r206 =>
opt (atI r206 (1 : Int)) >>= fun y230 =>
m_law_number y230 >>= fun r235 =>
opt (atI st141 y174) >>= fun y241 =>
setI st186.1 y241 r235 >>= fun z248 =>
if (0 : Int) < y174 then (
opt (atI r206 (2 : Int)) >>= fun y257 =>
opt (atI r206 (2 : Int)) >>= fun y275 =>
chk (CDivW y275 (40 : Int)) >>= fun _ =>
chk (0 < (3 : Int)) >>= fun _ =>
opt (atI ([y174, (if (2 : Int) < y174 then (2 : Int) else y174), (if (5 : Int) < y174 then (5 : Int) else y174)]) ((y275 / (40 : Int)) % (3 : Int))) >>= fun y287 =>
chk (0 < y287) >>= fun _ =>
opt (atI st141 ((y174 - (1 : Int)) - (y257 % y287))) >>= fun y293 =>
opt (atI st141 y174) >>= fun y298 =>
opt (atI st141 y174) >>= fun y303 =>
opt (atI r206 (3 : Int)) >>= fun y313 =>
m_law_number y313 >>= fun r318 =>
appL st186.2 (T3.mk (if y298 < y293 then y298 else y293) (if y303 > y293 then y303 else y293) r318) >>= fun _ =>
.ok (z248, (st186.2 ++ [(T3.mk (if y298 < y293 then y298 else y293) (if y303 > y293 then y303 else y293) r318)])))
else (
.ok (z248, st186.2))) (rangeL 0 ((30 : Int) + (((r1 / x_most) / (16 : Int)) % (11 : Int)))) ((repL ((30 : Int) + (((r1 / x_most) / (16 : Int)) % (11 : Int))) ([(0 : Int)])), ([] : List (T3 Int Int Int))) >>= fun st338 =>
.ok (st338.1, (sortT st338.2)))
else (
m_law_cell_at x_script (1 : Int) >>= fun r377 =>
m_law_digits r377 (((1 : Int) + (r1 % x_most)) - ((cutL x_script (some (3 : Int)) (some ((3 : Int) + ((1 : Int) + (r1 % x_most))))).length : Int)) ((10 : Int) ^ Int.toNat (12 : Int)) >>= fun r388 =>
chk ((cutL x_script (some (3 : Int)) (some ((3 : Int) + ((1 : Int) + (r1 % x_most))))).length + r388.length < 16777216) >>= fun _ =>
chk (okR ((1 : Int) + (r1 % x_most))) >>= fun _ =>
loopN (fun (y432 : Int) (st444 : (List Int)) =>
opt (atI ((cutL x_script (some (3 : Int)) (some ((3 : Int) + ((1 : Int) + (r1 % x_most))))) ++ r388) y432) >>= fun y455 =>
m_law_digits y455 (1 : Int) (720720 : Int) >>= fun r460 =>
opt (atI r460 (0 : Int)) >>= fun y484 =>
chk (0 < ((st444.length : Int) + (1 : Int))) >>= fun _ =>
chk (CIns st444.length (y484 % ((st444.length : Int) + (1 : Int)))) >>= fun _ =>
.ok (insL st444 (y484 % ((st444.length : Int) + (1 : Int))) y432)) (rangeL 0 ((1 : Int) + (r1 % x_most))) ([] : List Int) >>= fun st496 =>
chk (CRep ([(0 : Int)]).length ((1 : Int) + (r1 % x_most))) >>= fun _ =>
chk (okR ((1 : Int) + (r1 % x_most))) >>= fun _ =>
loopN (fun (y529 : Int) (st541 : (List Int) × (List (T3 Int Int Int))) =>
opt (atI ((cutL x_script (some (3 : Int)) (some ((3 : Int) + ((1 : Int) + (r1 % x_most))))) ++ r388) y529) >>= fun y556 =>
m_law_digits y556 (4 : Int) ((10 : Int) ^ Int.toNat (9 : Int)) >>= fun r561 =>
opt (atI r561 (1 : Int)) >>= fun y585 =>
m_law_number y585 >>= fun r590 =>
opt (atI st496 y529) >>= fun y596 =>
setI st541.1 y596 r590 >>= fun z603 =>
if (0 : Int) < y529 then (
opt (atI r561 (2 : Int)) >>= fun y612 =>
opt (atI r561 (2 : Int)) >>= fun y630 =>
chk (CDivW y630 (40 : Int)) >>= fun _ =>
chk (0 < (3 : Int)) >>= fun _ =>
opt (atI ([y529, (if (2 : Int) < y529 then (2 : Int) else y529), (if (5 : Int) < y529 then (5 : Int) else y529)]) ((y630 / (40 : Int)) % (3 : Int))) >>= fun y642 =>
chk (0 < y642) >>= fun _ =>
opt (atI st496 ((y529 - (1 : Int)) - (y612 % y642))) >>= fun y648 =>
opt (atI st496 y529) >>= fun y653 =>
opt (atI st496 y529) >>= fun y658 =>
opt (atI r561 (3 : Int)) >>= fun y668 =>
m_law_number y668 >>= fun r673 =>
appL st541.2 (T3.mk (if y653 < y648 then y653 else y648) (if y658 > y648 then y658 else y648) r673) >>= fun _ =>
.ok (z603, (st541.2 ++ [(T3.mk (if y653 < y648 then y653 else y648) (if y658 > y648 then y658 else y648) r673)])))
else (
.ok (z603, st541.2))) (rangeL 0 ((1 : Int) + (r1 % x_most))) ((repL ((1 : Int) + (r1 % x_most)) ([(0 : Int)])), ([] : List (T3 Int Int Int))) >>= fun st693 =>
.ok (st693.1, (sortT st693.2)))
def sp_law_tree (K : PySem.W.Frag) (mg : Str → Option Value) : Sp := fun vs H Q E => ∃ (F : Hp) (a_script : Addr) (x_script : (List Int)) (x_most : Int), vs = [.ref a_script, V.int x_most] ∧ Pre F [] H ∧ SqL K F a_script (x_script.map V.int) ∧
  wp (m_law_tree x_script x_most) (fun r => ∀ (F' H' : Hp), Gr [] F H F' H' → ∀ v : V, R (a := ((List Int) × (List (T3 Int Int Int)))) F' v r → Q v H')
  (fun n => ∀ (C : Addr) (H' : Hp), mg (Str.ofString n) = some (.ref C) → Kp [] H H' → E (.ref C) none H')
set_option maxHeartbeats 2000000 in
theorem ok_law_tree (nb : Nb mg) (C_law_cell_at : Ca P w K mg base "_law_cell_at" 1 ["script", "k"] (sp_law_cell_at K mg)) (C_law_digits : Ca P w K mg base "_law_digits" 1 ["cell", "many", "top"] (sp_law_digits mg)) (C_law_number : Ca P w K mg base "_law_number" 1 ["x"] (sp_law_number mg)) (D : Df K mg "_law_tree" "_law_tree" s_law_tree ["script", "most"]) : Ca P w K mg base "_law_tree" 2 ["script", "most"] (sp_law_tree K mg) := by
  obtain ⟨fa_law_cell_at, fd_law_cell_at, G_law_cell_at, M_law_cell_at, K_law_cell_at, B_law_cell_at⟩ := C_law_cell_at.ex
  obtain ⟨fa_law_digits, fd_law_digits, G_law_digits, M_law_digits, K_law_digits, B_law_digits⟩ := C_law_digits.ex
  obtain ⟨fa_law_number, fd_law_number, G_law_number, M_law_number, K_law_number, B_law_number⟩ := C_law_number.ex
  refine Ca.mk' D sc_law_tree (fun vs H Q E h => ?_) (fun q_ f_ cdv A outer s H vs Q E hr h => ?_)
  · obtain ⟨F, _, _, _, rfl, _⟩ := h
    rfl
  · obtain ⟨F, a_script, x_script, x_most, rfl, P0, f_script, hk⟩ := h
    have nd := sc_law_tree.nd
    have hu64 := hr.units
    have hu128 := hu128_of hr
    have O := P0.start
    refine ⟨_, (pss_cons (ps_set (i := 2) nd rfl (Or.inl rfl) (pe_call G_law_cell_at (hr.mono (by decide)) rfl M_law_cell_at K_law_cell_at B_law_cell_at .nil (passes_call (takes_of rfl rfl rfl rfl) fun _ _ _ _ h => h) (pa_cons (pv 0) (pa_cons pe_int pa_nil))))
  (pss_cons (ps_set (i := 3) nd rfl (Or.inl rfl) (pe_op op_add pe_int (pe_op op_mod (pv 2) (pv 1))))
  (pss_cons (ps_if (pt_cmpR (op_eqT Int hu64) (pe_op op_mod (pe_op op_fdivW (pv 2) (pv 1)) pe_int) pe_int (nomark _)) (pss_one (ps_set (i := 3) nd rfl (Or.inl rfl) (pe_op op_add pe_int (pe_op op_mod (pe_op op_fdivW (pe_op op_fdivW (pv 2) (pv 1)) pe_int) pe_int)))) pss_nil)
  (pss_cons (ps_set (i := 4) nd rfl (Or.inl rfl) (pe_slice (slListK (K := K) rfl) (pv 0) (po_some pe_int) (po_some (pe_op op_add pe_int (pv 3)))))
  (pss_cons (ps_set (i := 4) nd rfl (Or.inl rfl) (pe_op op_cat (pv 4) (pe_call G_law_digits (hr.mono (by decide)) rfl M_law_digits K_law_digits B_law_digits .nil (passes_call (takes_of rfl rfl rfl rfl) fun _ _ _ _ h => h) (pa_cons (pe_call G_law_cell_at (hr.mono (by decide)) rfl M_law_cell_at K_law_cell_at B_law_cell_at .nil (passes_call (takes_of rfl rfl rfl rfl) fun _ _ _ _ h => h) (pa_cons (pv 0) (pa_cons pe_int pa_nil))) (pa_cons (pe_op op_sub (pv 3) (pe_callB call_lenT (by rfl) nb.b_len PySem.boot_len (pa_cons (pv 4) pa_nil))) (pa_cons (pe_op op_pow pe_int pe_int) pa_nil))))))
  (pss_cons (ps_set (i := 5) nd rfl (Or.inl rfl) (pe_lst pa_nil))
  (pss_cons (ps_for (passes_of rfl) rfl (pi_range1 rfl nb.b_range (pa_cons (pv 3) pa_nil)) (pg_name (i := 6) nd rfl (Or.inl rfl)) (pss_one (ps_expr (bmK (K := K) rfl (pe_bm PySem.F.plainAttrs_list PySem.F.slot_list_insert PySem.F.type_list_insert mt_insert (pv 5) (pa_cons (pe_op op_mod (pe_ix (ixListK (K := K) rfl) (pe_call G_law_digits (hr.mono (by decide)) rfl M_law_digits K_law_digits B_law_digits .nil (passes_call (takes_of rfl rfl rfl rfl) fun _ _ _ _ h => h) (pa_cons (pe_ix (ixListK (K := K) rfl) (pv 4) (pv 6) (fun _ _ => rfl)) (pa_cons pe_int (pa_cons pe_int pa_nil)))) pe_int (fun _ _ => rfl)) (pe_op op_add (pe_callB call_lenT (by rfl) nb.b_len PySem.boot_len (pa_cons (pv 5) pa_nil)) pe_int)) (pa_cons (pv 6) pa_nil)))))))
  (pss_cons (ps_set (i := 7) nd rfl (Or.inl rfl) (pe_op op_rep (pe_lst (pa_cons pe_int pa_nil)) (pv 3)))
  (pss_cons (ps_set (i := 8) nd rfl (Or.inl rfl) (pe_lst pa_nil))
  (pss_cons (ps_for (passes_of rfl) rfl (pi_range1 rfl nb.b_range (pa_cons (pv 3) pa_nil)) (pg_name (i := 6) nd rfl (Or.inl rfl)) (pss_cons (ps_set (i := 9) nd rfl (Or.inl rfl) (pe_call G_law_digits (hr.mono (by decide)) rfl M_law_digits K_law_digits B_law_digits .nil (passes_call (takes_of rfl rfl rfl rfl) fun _ _ _ _ h => h) (pa_cons (pe_ix (ixListK (K := K) rfl) (pv 4) (pv 6) (fun _ _ => rfl)) (pa_cons pe_int (pa_cons (pe_op op_pow pe_int pe_int) pa_nil)))))
  (pss_cons (ps_asg (pe_call G_law_number (hr.mono (by decide)) rfl M_law_number K_law_number B_law_number .nil (passes_call (takes_of rfl rfl rfl rfl) fun _ _ _ _ h => h) (pa_cons (pe_ix (ixListK (K := K) rfl) (pv 9) pe_int (fun _ _ => rfl)) pa_nil)) (pg_sub (pv 7) (pe_ix (ixListK (K := K) rfl) (pv 5) (pv 6) (fun _ _ => rfl)) set_list))
  (pss_one (ps_if (pt_cmpR op_gt (pv 6) pe_int (nomark _)) (pss_cons (ps_set (i := 10) nd rfl (Or.inl rfl) (pe_ix (ixListK (K := K) rfl) (pv 5) (pe_op op_sub (pe_op op_sub (pv 6) pe_int) (pe_op op_mod (pe_ix (ixListK (K := K) rfl) (pv 9) pe_int (fun _ _ => rfl)) (pe_ix (ixListK (K := K) rfl) (pe_lst (pa_cons (pv 6) (pa_cons (pe_callB (call_min2 rfl) (by rfl) nb.b_min (by decide +kernel) (pa_cons (pv 6) (pa_cons pe_int pa_nil))) (pa_cons (pe_callB (call_min2 rfl) (by rfl) nb.b_min (by decide +kernel) (pa_cons (pv 6) (pa_cons pe_int pa_nil))) pa_nil)))) (pe_op op_mod (pe_op op_fdivW (pe_ix (ixListK (K := K) rfl) (pv 9) pe_int (fun _ _ => rfl)) pe_int) pe_int) (fun _ _ => rfl)))) (fun _ _ => rfl)))
  (pss_one (ps_expr (bmK (K := K) rfl (pe_bm PySem.F.plainAttrs_list PySem.F.slot_list_append PySem.F.type_list_append mt_append (pv 8) (pa_cons (pe_tup (pa_cons (pe_callB (call_min2 rfl) (by rfl) nb.b_min (by decide +kernel) (pa_cons (pv 10) (pa_cons (pe_ix (ixListK (K := K) rfl) (pv 5) (pv 6) (fun _ _ => rfl)) pa_nil))) (pa_cons (pe_callB (call_max2 rfl) (by rfl) nb.b_max (by decide +kernel) (pa_cons (pv 10) (pa_cons (pe_ix (ixListK (K := K) rfl) (pv 5) (pv 6) (fun _ _ => rfl)) pa_nil))) (pa_cons (pe_call G_law_number (hr.mono (by decide)) rfl M_law_number K_law_number B_law_number .nil (passes_call (takes_of rfl rfl rfl rfl) fun _ _ _ _ h => h) (pa_cons (pe_ix (ixListK (K := K) rfl) (pv 9) pe_int (fun _ _ => rfl)) pa_nil)) pa_nil)))) pa_nil)))))) pss_nil)))))
  (pss_one (ps_ret (pe_tup (pa_cons (pv 7) (pa_cons (pe_callB (cr_sortedT (T3 Int Int Int) hu128) (by rfl) nb.b_sorted (by decide +kernel) (pa_cons (pv 8) pa_nil)) pa_nil))))))))))))))), ?_⟩
    refine ⟨_, rfl, _, _, _, _, rfl, O.pre0, f_script, wp_call hk (fun r1 er2 hk F3 H4 g5 => ?_) (fun n hn C H1 hC kp => hn C H1 hC (O.kp0 kp))⟩
    have O6 := O.call0 g5
    have S_ := g5.f
    have f_script := S_.seq f_script
    obtain ⟨c7, hk⟩ := wp_chk hk
    obtain ⟨c8, hk⟩ := wp_chk hk
    obtain ⟨c9, hk⟩ := wp_chk hk
    refine ⟨_, rfl, _, rfl, _, _, rfl, rfl, c7, _, _, rfl, rfl, _, rfl, _, rfl, _, _, rfl, rfl, c8, _, _, rfl, rfl, c9, _, _, R.int, R.int, _, rfl, ?_⟩
    refine iteD (fun q10 => ?_) (fun q10 => ?_)
    · have hk := wp_if hk q10
      obtain ⟨c11, hk⟩ := wp_chk hk
      obtain ⟨c12, hk⟩ := wp_chk hk
      obtain ⟨c13, hk⟩ := wp_chk hk
      refine ⟨_, rfl, _, rfl, _, _, rfl, rfl, c11, _, _, rfl, rfl, c12, _, _, rfl, rfl, c13, _, _, rfl, rfl, _, rfl, _, rfl, _, rfl, _, _, rfl, rfl, _, rfl, _, _, rfl, (O6.s.seq f_script), fun p14 hp15 => ?_⟩
      have hl21 : RL (a := Int) F3 (cutV (List.map V.int x_script) (some (3 : Int)) (some ((3 : Int) + ((30 : Int) + (((r1 / x_most) / (16 : Int)) % (11 : Int)))))) (cutL x_script (some (3 : Int)) (some ((3 : Int) + ((30 : Int) + (((r1 / x_most) / (16 : Int)) % (11 : Int)))))) := RL.cutL (RL.of_ints (H := F3)) (some (3 : Int)) (some ((3 : Int) + ((30 : Int) + (((r1 / x_most) / (16 : Int)) % (11 : Int)))))
      obtain ⟨F16, O17, S18, h19⟩ := O6.putE hp15 (.lst (cutV (List.map V.int x_script) (some (3 : Int)) (some ((3 : Int) + ((30 : Int) + (((r1 / x_most) / (16 : Int)) % (11 : Int)))))))
      have f_script := S18.seq f_script
      have hl21 := hl21.mono S18
      have h20 := R.lst (a := Int) h19 hl21
      refine ⟨_, rfl, _, rfl, _, _, _, _, rfl, O17.pre0, f_script, wp_call hk (fun r22 er23 hk F24 H25 g26 => ?_) (fun n hn C H1 hC kp => hn C H1 hC (O17.kp0 kp))⟩
      have O27 := O17.call0 g26
      have S_ := g26.f
      have f_script := S_.seq f_script
      have h20 := h20.mono S_
      obtain ⟨p28, w29, e30, h31, hl32⟩ := R.lst_ h20
      cases e30
      refine ⟨_, rfl, _, rfl, _, _, _, rfl, (.inl (O27.s _ _ h31)), hl32.len, _, _, rfl, rfl, _, _, rfl, rfl, (by decide), _, _, _, _, rfl, O27.pre0, wp_call hk (fun r33 er34 hk F35 H36 g37 p38 w39 hn40 hf41 h42 hl43 => ?_) (fun n hn C H1 hC kp => hn C H1 hC (O27.kp0 kp))⟩
      have O44 := O27.call0 g37
      have S_ := g37.f
      have f_script := S_.seq f_script
      have h20 := h20.mono S_
      have h31 := S_ _ _ h31
      have hl32 := hl32.mono S_
      have O45 := O27.got O44 rfl hn40 hf41 h42
      have z46 := O27.was hn40
      obtain ⟨F47, O48, S49, h50⟩ := O45.frzE 0 rfl z46
      have f_script := S49.seq f_script
      have h20 := h20.mono S49
      have h31 := S49 _ _ h31
      have hl32 := hl32.mono S49
      have hl43 := hl43.mono S49
      have h51 := R.lst (a := Int) h50 hl43
      obtain ⟨p52, w53, e54, h55, hl56⟩ := R.lst_ h20
      cases e54
      obtain ⟨p57, w58, e59, h60, hl61⟩ := R.lst_ h51
      cases e59
      obtain ⟨c62, hk⟩ := wp_chk hk
      refine ⟨_, _, _, _, rfl, rfl, (O48.s _ _ h55), (O48.s _ _ h60), (by rw [hl56.len, hl61.len]; exact le_line c62), fun p63 hp64 => ?_⟩
      have hl70 : RL (a := Int) F47 (w53 ++ w58) ((cutL x_script (some (3 : Int)) (some ((3 : Int) + ((30 : Int) + (((r1 / x_most) / (16 : Int)) % (11 : Int)))))) ++ r33) := RL.app hl56 hl61
      obtain ⟨F65, O66, S67, h68⟩ := O48.putE hp64 (.lst (w53 ++ w58))
      have f_script := S67.seq f_script
      have h20 := h20.mono S67
      have h31 := S67 _ _ h31
      have hl32 := hl32.mono S67
      have h51 := h51.mono S67
      have h55 := S67 _ _ h55
      have hl56 := hl56.mono S67
      have h60 := S67 _ _ h60
      have hl61 := hl61.mono S67
      have hl70 := hl70.mono S67
      have h69 := R.lst (a := Int) h68 hl70
      refine ⟨(by show 0 ≤ sizeLine; decide), fun p72 hp73 => ?_⟩
      have hl75 : RL (a := Int) F65 ([]) ([] : List Int) := RL.nil
      have z76 := O66.was hp73
      have O74 := O66.new (o := .lst ([])) hp73
      obtain ⟨c78, hk⟩ := wp_chk hk
      obtain ⟨L79, hL80, hLs81, hLd82⟩ := loopN_L hk
      refine ⟨_, rfl, _, rfl, c78.lo, c78.hi, ?_⟩
      refine for_range (lo := 0) (n := (((30 : Int) + (((r1 / x_most) / (16 : Int)) % (11 : Int)))).toNat) (fun i σ H_ => ∃ (F_ : Hp) (st : (List Int)) (w_0 : (List V)) (t_0 : Option V), σ = [some (V.ref a_script), some (V.int x_most), some (V.int r1), some (V.int ((30 : Int) + (((r1 / x_most) / (16 : Int)) % (11 : Int)))), some (V.ref p63), some (V.ref p72), t_0, none, none, none, none] ∧ Same F65 F_ ∧ Ow _ F_ [(p72, .lst w_0)] H_ ∧ RL (a := Int) F_ w_0 st ∧ L79 (List.drop i (rangeL 0 ((30 : Int) + (((r1 / x_most) / (16 : Int)) % (11 : Int))))) st) ⟨F65, ([] : List Int), [], none, rfl, Same.refl _, O74, hl75, hL80⟩ ?_ ?_
      · rintro i83 sg85 H86 hi87 ⟨F93, st89, w90, t92, rfl, S88, O94, hl91, hL80⟩
        have f_script := S88.seq f_script
        have h20 := h20.mono S88
        have h31 := S88 _ _ h31
        have hl32 := hl32.mono S88
        have h51 := h51.mono S88
        have h55 := S88 _ _ h55
        have hl56 := hl56.mono S88
        have h60 := S88 _ _ h60
        have hl61 := hl61.mono S88
        have h69 := h69.mono S88
        rw [rangeL_get0 hi87] at hL80
        have hk := hLs81 _ _ _ hL80
        obtain ⟨y77, he_⟩ : ∃ z_, z_ = 0 + (i83 : Int) := ⟨_, rfl⟩
        try rw [← he_] at hk
        rw [← he_]
        obtain ⟨p95, w96, e97, h98, hl99⟩ := R.lst_ h69
        cases e97
        obtain ⟨y100, e101, hk⟩ := wp_opt hk
        obtain ⟨w102, e103, r104⟩ := hl99.atI e101
        obtain rfl := R.int_ r104
        refine ⟨_, rfl, (.inl ⟨rfl, _, SqL.of (O94.at 0 rfl)⟩), _, rfl, _, rfl, _, _, _, _, rfl, rfl, (SqLF O94.s h98), e103, _, _, _, _, rfl, O94.pre0, wp_call hk (fun r105 er106 hk F107 H108 g109 p110 w111 hn112 hf113 h114 hl115 => ?_) (fun n hn C H1 hC kp => hn C H1 hC (O94.kp0 kp))⟩
        have O116 := O94.call0 g109
        have S_ := g109.f
        have f_script := S_.seq f_script
        have h20 := h20.mono S_
        have h31 := S_ _ _ h31
        have hl32 := hl32.mono S_
        have h51 := h51.mono S_
        have h55 := S_ _ _ h55
        have hl56 := hl56.mono S_
        have h60 := S_ _ _ h60
        have hl61 := hl61.mono S_
        have h69 := h69.mono S_
        have hl91 := hl91.mono S_
        have S88 := S88.trans S_
        have h98 := S_ _ _ h98
        have hl99 := hl99.mono S_
        have O117 := O94.got O116 rfl hn112 hf113 h114
        have z118 := O94.was hn112
        obtain ⟨F119, O120, S121, h122⟩ := O117.frzE 0 rfl z118
        have f_script := S121.seq f_script
        have h20 := h20.mono S121
        have h31 := S121 _ _ h31
        have hl32 := hl32.mono S121
        have h51 := h51.mono S121
        have h55 := S121 _ _ h55
        have hl56 := hl56.mono S121
        have h60 := S121 _ _ h60
        have hl61 := hl61.mono S121
        have h69 := h69.mono S121
        have hl91 := hl91.mono S121
        have S88 := S88.trans S121
        have h98 := S121 _ _ h98
        have hl99 := hl99.mono S121
        have hl115 := hl115.mono S121
        have h123 := R.lst (a := Int) h122 hl115
        obtain ⟨p124, w125, e126, h127, hl128⟩ := R.lst_ h123
        cases e126
        obtain ⟨y129, e130, hk⟩ := wp_opt hk
        obtain ⟨w131, e132, r133⟩ := hl128.atI e130
        obtain rfl := R.int_ r133
        obtain ⟨c134, hk⟩ := wp_chk hk
        obtain ⟨c135, hk⟩ := wp_chk hk
        refine ⟨_, _, _, _, rfl, rfl, (SqLF O120.s h127), e132, _, rfl, _, _, _, rfl, (.inl (O120.at 0 rfl)), hl91.len, _, _, rfl, rfl, _, _, rfl, rfl, c134, _, rfl, _, _, _, _, rfl, rfl, (O120.at 0 rfl), (by rw [hl91.len]; exact c135.1), c135.2.1, c135.2.2, ?_⟩
        have O136 := O120.set 0 (.lst (insL w90 (y129 % ((st89.length : Int) + (1 : Int))) (V.int y77))) rfl
        have hl137 : RL (a := Int) F119 (insL w90 (y129 % ((st89.length : Int) + (1 : Int))) (V.int y77)) (insL st89 (y129 % ((st89.length : Int) + (1 : Int))) y77) := RL.ins hl91 (y129 % ((st89.length : Int) + (1 : Int))) R.int
        exact ⟨F119, (insL st89 (y129 % ((st89.length : Int) + (1 : Int))) y77), (insL w90 (y129 % ((st89.length : Int) + (1 : Int))) (V.int y77)), some (V.int y77), rfl, S88, O136, hl137, hk⟩
      rintro sg138 H139 ⟨F146, st141, w143, t145, rfl, S140, O147, hl144, hL142⟩
      rw [rangeL_end0] at hL142
      have hk := hLd82 _ hL142
      have f_script := S140.seq f_script
      have h20 := h20.mono S140
      have h31 := S140 _ _ h31
      have hl32 := hl32.mono S140
      have h51 := h51.mono S140
      have h55 := S140 _ _ h55
      have hl56 := hl56.mono S140
      have h60 := S140 _ _ h60
      have hl61 := hl61.mono S140
      have h69 := h69.mono S140
      refine ⟨(by show 1 ≤ sizeLine; decide), fun p149 hp150 => ?_⟩
      have hl156 : RL (a := Int) F146 ([V.int (0 : Int)]) ([(0 : Int)]) := RL.cons R.int RL.nil
      obtain ⟨F151, O152, S153, h154⟩ := O147.putE hp150 (.lst ([V.int (0 : Int)]))
      have f_script := S153.seq f_script
      have h20 := h20.mono S153
      have h31 := S153 _ _ h31
      have hl32 := hl32.mono S153
      have h51 := h51.mono S153
      have h55 := S153 _ _ h55
      have hl56 := hl56.mono S153
      have h60 := S153 _ _ h60
      have hl61 := hl61.mono S153
      have h69 := h69.mono S153
      have hl144 := hl144.mono S153
      have hl156 := hl156.mono S153
      have h155 := R.lst (a := Int) h154 hl156
      obtain ⟨p157, w158, e159, h160, hl161⟩ := R.lst_ h155
      cases e159
      obtain ⟨c162, hk⟩ := wp_chk hk
      refine ⟨_, rfl, _, _, _, rfl, rfl, (O152.s _ _ h160), c162.1, c162.2.1, (by rw [hl161.len]; exact le_line c162.2.2), fun p163 hp164 => ?_⟩
      have hl166 : RL (a := Int) F151 (repL ((30 : Int) + (((r1 / x_most) / (16 : Int)) % (11 : Int))) w158) (repL ((30 : Int) + (((r1 / x_most) / (16 : Int)) % (11 : Int))) ([(0 : Int)])) := RL.rep hl161 ((30 : Int) + (((r1 / x_most) / (16 : Int)) % (11 : Int)))
      have z167 := O152.was hp164
      have O165 := O152.new (o := .lst (repL ((30 : Int) + (((r1 / x_most) / (16 : Int)) % (11 : Int))) w158)) hp164
      refine ⟨(by show 0 ≤ sizeLine; decide), fun p169 hp170 => ?_⟩
      have hl172 : RL (a := (T3 Int Int Int)) F151 ([]) ([] : List (T3 Int Int Int)) := RL.nil
      have z173 := O165.was hp170
      have O171 := O165.new (o := .lst ([])) hp170
      obtain ⟨c175, hk⟩ := wp_chk hk
      obtain ⟨L176, hL177, hLs178, hLd179⟩ := loopN_L hk
      refine ⟨_, rfl, _, rfl, c175.lo, c175.hi, ?_⟩
      refine for_range (lo := 0) (n := (((30 : Int) + (((r1 / x_most) / (16 : Int)) % (11 : Int)))).toNat) (fun i σ H_ => ∃ (F_ : Hp) (st : (List Int) × (List (T3 Int Int Int))) (w_0 : (List V)) (w_1 : (List V)) (t_0 : Option V) (t_1 : Option V) (t_2 : Option V), σ = [some (V.ref a_script), some (V.int x_most), some (V.int r1), some (V.int ((30 : Int) + (((r1 / x_most) / (16 : Int)) % (11 : Int)))), some (V.ref p63), some (V.ref p72), t_0, some (V.ref p163), some (V.ref p169), t_1, t_2] ∧ Same F151 F_ ∧ Ow _ F_ [(p169, .lst w_1), (p163, .lst w_0), (p72, .lst w143)] H_ ∧ RL (a := Int) F_ w_0 st.1 ∧ RL (a := (T3 Int Int Int)) F_ w_1 st.2 ∧ L176 (List.drop i (rangeL 0 ((30 : Int) + (((r1 / x_most) / (16 : Int)) % (11 : Int))))) st) ⟨F151, ((repL ((30 : Int) + (((r1 / x_most) / (16 : Int)) % (11 : Int))) ([(0 : Int)])), ([] : List (T3 Int Int Int))), repL ((30 : Int) + (((r1 / x_most) / (16 : Int)) % (11 : Int))) w158, [], t145, none, none, rfl, Same.refl _, O171, hl166, hl172, hL177⟩ ?_ ?_
      · rintro i180 sg182 H183 hi184 ⟨F194, st186, w187, w188, t191, t192, t193, rfl, S185, O195, hl189, hl190, hL177⟩
        have f_script := S185.seq f_script
        have h20 := h20.mono S185
        have h31 := S185 _ _ h31
        have hl32 := hl32.mono S185
        have h51 := h51.mono S185
        have h55 := S185 _ _ h55
        have hl56 := hl56.mono S185
        have h60 := S185 _ _ h60
        have hl61 := hl61.mono S185
        have h69 := h69.mono S185
        have hl144 := hl144.mono S185
        have h155 := h155.mono S185
        have h160 := S185 _ _ h160
        have hl161 := hl161.mono S185
        rw [rangeL_get0 hi184] at hL177
        have hk := hLs178 _ _ _ hL177
        obtain ⟨y174, he_⟩ : ∃ z_, z_ = 0 + (i180 : Int) := ⟨_, rfl⟩
        try rw [← he_] at hk
        rw [← he_]
        obtain ⟨p196, w197, e198, h199, hl200⟩ := R.lst_ h69
        cases e198
        obtain ⟨y201, e202, hk⟩ := wp_opt hk
        obtain ⟨w203, e204, r205⟩ := hl200.atI e202
        obtain rfl := R.int_ r205
        refine ⟨_, rfl, _, rfl, _, _, _, _, rfl, rfl, (SqLF O195.s h199), e204, _, _, rfl, rfl, (by decide), _, _, _, _, rfl, O195.pre0, wp_call hk (fun r206 er207 hk F208 H209 g210 p211 w212 hn213 hf214 h215 hl216 => ?_) (fun n hn C H1 hC kp => hn C H1 hC (O195.kp0 kp))⟩
        have O217 := O195.call0 g210
        have S_ := g210.f
        have f_script := S_.seq f_script
        have h20 := h20.mono S_
        have h31 := S_ _ _ h31
        have hl32 := hl32.mono S_
        have h51 := h51.mono S_
        have h55 := S_ _ _ h55
        have hl56 := hl56.mono S_
        have h60 := S_ _ _ h60
        have hl61 := hl61.mono S_
        have h69 := h69.mono S_
        have hl144 := hl144.mono S_
        have h155 := h155.mono S_
        have h160 := S_ _ _ h160
        have hl161 := hl161.mono S_
        have hl189 := hl189.mono S_
        have hl190 := hl190.mono S_
        have S185 := S185.trans S_
        have h199 := S_ _ _ h199
        have hl200 := hl200.mono S_
        have O218 := O195.got O217 rfl hn213 hf214 h215
        have z219 := O195.was hn213
        obtain ⟨F220, O221, S222, h223⟩ := O218.frzE 0 rfl z219
        have f_script := S222.seq f_script
        have h20 := h20.mono S222
        have h31 := S222 _ _ h31
        have hl32 := hl32.mono S222
        have h51 := h51.mono S222
        have h55 := S222 _ _ h55
        have hl56 := hl56.mono S222
        have h60 := S222 _ _ h60
        have hl61 := hl61.mono S222
        have h69 := h69.mono S222
        have hl144 := hl144.mono S222
        have h155 := h155.mono S222
        have h160 := S222 _ _ h160
        have hl161 := hl161.mono S222
        have hl189 := hl189.mono S222
        have hl190 := hl190.mono S222
        have S185 := S185.trans S222
        have h199 := S222 _ _ h199
        have hl200 := hl200.mono S222
        have hl216 := hl216.mono S222
        have h224 := R.lst (a := Int) h223 hl216
        obtain ⟨p225, w226, e227, h228, hl229⟩ := R.lst_ h224
        cases e227
        obtain ⟨y230, e231, hk⟩ := wp_opt hk
        obtain ⟨w232, e233, r234⟩ := hl229.atI e231
        obtain rfl := R.int_ r234
        refine ⟨_, rfl, _, _, _, _, rfl, rfl, (SqLF O221.s h228), e233, _, _, rfl, O221.pre0, wp_call hk (fun r235 er236 hk F237 H238 g239 => ?_) (fun n hn C H1 hC kp => hn C H1 hC (O221.kp0 kp))⟩
        have O240 := O221.call0 g239
        have S_ := g239.f
        have f_script := S_.seq f_script
        have h20 := h20.mono S_
        have h31 := S_ _ _ h31
        have hl32 := hl32.mono S_
        have h51 := h51.mono S_
        have h55 := S_ _ _ h55
        have hl56 := hl56.mono S_
        have h60 := S_ _ _ h60
        have hl61 := hl61.mono S_
        have h69 := h69.mono S_
        have hl144 := hl144.mono S_
        have h155 := h155.mono S_
        have h160 := S_ _ _ h160
        have hl161 := hl161.mono S_
        have hl189 := hl189.mono S_
        have hl190 := hl190.mono S_
        have S185 := S185.trans S_
        have h199 := S_ _ _ h199
        have hl200 := hl200.mono S_
        have h224 := h224.mono S_
        have h228 := S_ _ _ h228
        have hl229 := hl229.mono S_
        obtain ⟨y241, e242, hk⟩ := wp_opt hk
        obtain ⟨w243, e244, r245⟩ := hl144.atI e242
        obtain rfl := R.int_ r245
        obtain ⟨j246, e247, hk⟩ := wp_setI hk
        refine ⟨_, rfl, _, rfl, _, rfl, _, _, _, _, rfl, rfl, (SqL.of (O240.at 2 rfl)), e244, _, _, _, _, rfl, rfl, (O240.at 1 rfl), (by rw [hl189.len]; exact e247), ?_⟩
        have O249 := O240.set 1 (.lst (w187.set j246 (V.int r235))) rfl
        have hl250 : RL (a := Int) F237 (w187.set j246 (V.int r235)) (st186.1.set j246 r235) := RL.set j246 hl189 R.int
        refine ⟨_, rfl, _, _, rfl, rfl, _, rfl, ?_⟩
        refine iteD (fun q251 => ?_) (fun q251 => ?_)
        · have hk := wp_if hk q251
          obtain ⟨p252, w253, e254, h255, hl256⟩ := R.lst_ h224
          cases e254
          obtain ⟨y257, e258, hk⟩ := wp_opt hk
          obtain ⟨w259, e260, r261⟩ := hl256.atI e258
          obtain rfl := R.int_ r261
          refine ⟨_, rfl, _, rfl, _, _, rfl, rfl, _, rfl, _, _, _, _, rfl, rfl, (SqLF O249.s h255), e260, _, rfl, _, rfl, _, _, rfl, _, rfl, _, _, rfl, (by show 3 ≤ sizeLine; decide), fun p262 hp263 => ?_⟩
          have hl269 : RL (a := Int) F237 ([V.int y174, V.int (if (2 : Int) < y174 then (2 : Int) else y174), V.int (if (5 : Int) < y174 then (5 : Int) else y174)]) ([y174, (if (2 : Int) < y174 then (2 : Int) else y174), (if (5 : Int) < y174 then (5 : Int) else y174)]) := RL.cons R.int (RL.cons R.int (RL.cons R.int RL.nil))
          obtain ⟨F264, O265, S266, h267⟩ := O249.putE hp263 (.lst ([V.int y174, V.int (if (2 : Int) < y174 then (2 : Int) else y174), V.int (if (5 : Int) < y174 then (5 : Int) else y174)]))
          have f_script := S266.seq f_script
          have h20 := h20.mono S266
          have h31 := S266 _ _ h31
          have hl32 := hl32.mono S266
          have h51 := h51.mono S266
          have h55 := S266 _ _ h55
          have hl56 := hl56.mono S266
          have h60 := S266 _ _ h60
          have hl61 := hl61.mono S266
          have h69 := h69.mono S266
          have hl144 := hl144.mono S266
          have h155 := h155.mono S266
          have h160 := S266 _ _ h160
          have hl161 := hl161.mono S266
          have hl190 := hl190.mono S266
          have S185 := S185.trans S266
          have h199 := S266 _ _ h199
          have hl200 := hl200.mono S266
          have h224 := h224.mono S266
          have h228 := S266 _ _ h228
          have hl229 := hl229.mono S266
          have hl250 := hl250.mono S266
          have h255 := S266 _ _ h255
          have hl256 := hl256.mono S266
          have hl269 := hl269.mono S266
          have h268 := R.lst (a := Int) h267 hl269
          obtain ⟨p270, w271, e272, h273, hl274⟩ := R.lst_ h224
          cases e272
          obtain ⟨y275, e276, hk⟩ := wp_opt hk
          obtain ⟨w277, e278, r279⟩ := hl274.atI e276
          obtain rfl := R.int_ r279
          obtain ⟨c280, hk⟩ := wp_chk hk
          obtain ⟨c281, hk⟩ := wp_chk hk
          obtain ⟨p282, w283, e284, h285, hl286⟩ := R.lst_ h268
          cases e284
          obtain ⟨y287, e288, hk⟩ := wp_opt hk
          obtain ⟨w289, e290, r291⟩ := hl286.atI e288
          obtain rfl := R.int_ r291
          obtain ⟨c292, hk⟩ := wp_chk hk
          obtain ⟨y293, e294, hk⟩ := wp_opt hk
          obtain ⟨w295, e296, r297⟩ := hl144.atI e294
          obtain rfl := R.int_ r297
          obtain ⟨y298, e299, hk⟩ := wp_opt hk
          obtain ⟨w300, e301, r302⟩ := hl144.atI e299
          obtain rfl := R.int_ r302
          obtain ⟨y303, e304, hk⟩ := wp_opt hk
          obtain ⟨w305, e306, r307⟩ := hl144.atI e304
          obtain rfl := R.int_ r307
          obtain ⟨p308, w309, e310, h311, hl312⟩ := R.lst_ h224
          cases e310
          obtain ⟨y313, e314, hk⟩ := wp_opt hk
          obtain ⟨w315, e316, r317⟩ := hl312.atI e314
          obtain rfl := R.int_ r317
          refine ⟨_, rfl, _, _, _, _, rfl, rfl, (SqLF O265.s h273), e278, _, _, rfl, rfl, c280, _, _, rfl, rfl, c281, _, _, _, _, rfl, rfl, (SqLF O265.s h285), e290, _, _, rfl, rfl, c292, _, _, rfl, rfl, _, _, _, _, rfl, rfl, (SqL.of (O265.at 2 rfl)), e296, _, rfl, (.inl ⟨rfl, _, SqL.of (O265.at 0 rfl)⟩), _, rfl, _, rfl, _, rfl, _, _, _, _, rfl, rfl, (SqL.of (O265.at 2 rfl)), e301, _, _, rfl, _, rfl, _, rfl, _, rfl, _, _, _, _, rfl, rfl, (SqL.of (O265.at 2 rfl)), e306, _, _, rfl, _, rfl, _, _, _, _, rfl, rfl, (SqLF O265.s h311), e316, _, _, rfl, O265.pre0, wp_call hk (fun r318 er319 hk F320 H321 g322 => ?_) (fun n hn C H1 hC kp => hn C H1 hC (O265.kp0 kp))⟩
          have O323 := O265.call0 g322
          have S_ := g322.f
          have f_script := S_.seq f_script
          have h20 := h20.mono S_
          have h31 := S_ _ _ h31
          have hl32 := hl32.mono S_
          have h51 := h51.mono S_
          have h55 := S_ _ _ h55
          have hl56 := hl56.mono S_
          have h60 := S_ _ _ h60
          have hl61 := hl61.mono S_
          have h69 := h69.mono S_
          have hl144 := hl144.mono S_
          have h155 := h155.mono S_
          have h160 := S_ _ _ h160
          have hl161 := hl161.mono S_
          have hl190 := hl190.mono S_
          have S185 := S185.trans S_
          have h199 := S_ _ _ h199
          have hl200 := hl200.mono S_
          have h224 := h224.mono S_
          have h228 := S_ _ _ h228
          have hl229 := hl229.mono S_
          have hl250 := hl250.mono S_
          have h255 := S_ _ _ h255
          have hl256 := hl256.mono S_
          have h268 := h268.mono S_
          have h273 := S_ _ _ h273
          have hl274 := hl274.mono S_
          have h285 := S_ _ _ h285
          have hl286 := hl286.mono S_
          have h311 := S_ _ _ h311
          have hl312 := hl312.mono S_
          refine ⟨(by show 3 ≤ sizeLine; decide), fun p324 hp325 => ?_⟩
          obtain ⟨F326, O327, S328, h329⟩ := O323.putE hp325 (.tup [V.int (if y298 < y293 then y298 else y293), V.int (if y303 > y293 then y303 else y293), V.int r318])
          have f_script := S328.seq f_script
          have h20 := h20.mono S328
          have h31 := S328 _ _ h31
          have hl32 := hl32.mono S328
          have h51 := h51.mono S328
          have h55 := S328 _ _ h55
          have hl56 := hl56.mono S328
          have h60 := S328 _ _ h60
          have hl61 := hl61.mono S328
          have h69 := h69.mono S328
          have hl144 := hl144.mono S328
          have h155 := h155.mono S328
          have h160 := S328 _ _ h160
          have hl161 := hl161.mono S328
          have hl190 := hl190.mono S328
          have S185 := S185.trans S328
          have h199 := S328 _ _ h199
          have hl200 := hl200.mono S328
          have h224 := h224.mono S328
          have h228 := S328 _ _ h228
          have hl229 := hl229.mono S328
          have hl250 := hl250.mono S328
          have h255 := S328 _ _ h255
          have hl256 := hl256.mono S328
          have h268 := h268.mono S328
          have h273 := S328 _ _ h273
          have hl274 := hl274.mono S328
          have h285 := S328 _ _ h285
          have hl286 := hl286.mono S328
          have h311 := S328 _ _ h311
          have hl312 := hl312.mono S328
          have h330 : R (a := (T3 Int Int Int)) F326 (.ref p324) (T3.mk (if y298 < y293 then y298 else y293) (if y303 > y293 then y303 else y293) r318) := R.t3 h329 R.int R.int R.int
          obtain ⟨c331, hk⟩ := wp_appL hk
          refine ⟨_, _, _, rfl, rfl, (O327.at 0 rfl), (by rw [hl190.len]; exact c331), ?_⟩
          have O333 := O327.set 0 (.lst (w188 ++ [V.ref p324])) rfl
          have hl334 : RL (a := (T3 Int Int Int)) F326 (w188 ++ [V.ref p324]) (st186.2 ++ [(T3.mk (if y298 < y293 then y298 else y293) (if y303 > y293 then y303 else y293) r318)]) := RL.snoc hl190 h330
          exact ⟨F326, ((st186.1.set j246 r235), (st186.2 ++ [(T3.mk (if y298 < y293 then y298 else y293) (if y303 > y293 then y303 else y293) r318)])), (w187.set j246 (V.int r235)), (w188 ++ [V.ref p324]), some (V.int y174), some (V.ref p211), some (V.int y293), rfl, S185, O333, hl250, hl334, hk⟩
        · have hk := wp_el hk q251
          exact ⟨F237, ((st186.1.set j246 r235), st186.2), (w187.set j246 (V.int r235)), w188, some (V.int y174), some (V.ref p211), t193, rfl, S185, O249, hl250, hl190, hk⟩
      rintro sg335 H336 ⟨F347, st338, w340, w341, t344, t345, t346, rfl, S337, O348, hl342, hl343, hL339⟩
      rw [rangeL_end0] at hL339
      have hk := hLd179 _ hL339
      have f_script := S337.seq f_script
      have h20 := h20.mono S337
      have h31 := S337 _ _ h31
      have hl32 := hl32.mono S337
      have h51 := h51.mono S337
      have h55 := S337 _ _ h55
      have hl56 := hl56.mono S337
      have h60 := S337 _ _ h60
      have hl61 := hl61.mono S337
      have h69 := h69.mono S337
      have hl144 := hl144.mono S337
      have h155 := h155.mono S337
      have h160 := S337 _ _ h160
      have hl161 := hl161.mono S337
      refine ⟨_, rfl, _, rfl, _, _, _, rfl, (O348.at 0 rfl), (RL.mono hl343 O348.s), fun p349 hp350 => ?_⟩
      have hl356 : RL (a := (T3 Int Int Int)) F347 (sortV w341 st338.2) (sortT st338.2) := (RL.sorted hl343)
      obtain ⟨F351, O352, S353, h354⟩ := O348.putE hp350 (.lst (sortV w341 st338.2))
      have f_script := S353.seq f_script
      have h20 := h20.mono S353
      have h31 := S353 _ _ h31
      have hl32 := hl32.mono S353
      have h51 := h51.mono S353
      have h55 := S353 _ _ h55
      have hl56 := hl56.mono S353
      have h60 := S353 _ _ h60
      have hl61 := hl61.mono S353
      have h69 := h69.mono S353
      have hl144 := hl144.mono S353
      have h155 := h155.mono S353
      have h160 := S353 _ _ h160
      have hl161 := hl161.mono S353
      have hl342 := hl342.mono S353
      have hl343 := hl343.mono S353
      have hl356 := hl356.mono S353
      have h355 := R.lst (a := (T3 Int Int Int)) h354 hl356
      obtain ⟨F357, O358, S359, h360⟩ := O352.frzE 1 rfl z167
      have f_script := S359.seq f_script
      have h20 := h20.mono S359
      have h31 := S359 _ _ h31
      have hl32 := hl32.mono S359
      have h51 := h51.mono S359
      have h55 := S359 _ _ h55
      have hl56 := hl56.mono S359
      have h60 := S359 _ _ h60
      have hl61 := hl61.mono S359
      have h69 := h69.mono S359
      have hl144 := hl144.mono S359
      have h155 := h155.mono S359
      have h160 := S359 _ _ h160
      have hl161 := hl161.mono S359
      have hl342 := hl342.mono S359
      have hl343 := hl343.mono S359
      have h355 := h355.mono S359
      have h361 := R.lst (a := Int) h360 hl342
      refine ⟨(by show 2 ≤ sizeLine; decide), fun p362 hp363 => ?_⟩
      obtain ⟨F364, O365, S366, h367⟩ := O358.putE hp363 (.tup [V.ref p163, V.ref p349])
      have f_script := S366.seq f_script
      have h20 := h20.mono S366
      have h31 := S366 _ _ h31
      have hl32 := hl32.mono S366
      have h51 := h51.mono S366
      have h55 := S366 _ _ h55
      have hl56 := hl56.mono S366
      have h60 := S366 _ _ h60
      have hl61 := hl61.mono S366
      have h69 := h69.mono S366
      have hl144 := hl144.mono S366
      have h155 := h155.mono S366
      have h160 := S366 _ _ h160
      have hl161 := hl161.mono S366
      have hl343 := hl343.mono S366
      have h355 := h355.mono S366
      have h361 := h361.mono S366
      have h368 : R (a := ((List Int) × (List (T3 Int Int Int)))) F364 (.ref p362) (st338.1, (sortT st338.2)) := R.t2 h367 h361 h355
      exact hk _ _  O365.g  _ h368
    · have hk := wp_el hk q10
      refine ⟨_, rfl, _, rfl, _, rfl, _, _, rfl, rfl, _, rfl, _, _, rfl, (O6.s.seq f_script), fun p369 hp370 => ?_⟩
      have hl376 : RL (a := Int) F3 (cutV (List.map V.int x_script) (some (3 : Int)) (some ((3 : Int) + ((1 : Int) + (r1 % x_most))))) (cutL x_script (some (3 : Int)) (some ((3 : Int) + ((1 : Int) + (r1 % x_most))))) := RL.cutL (RL.of_ints (H := F3)) (some (3 : Int)) (some ((3 : Int) + ((1 : Int) + (r1 % x_most))))
      obtain ⟨F371, O372, S373, h374⟩ := O6.putE hp370 (.lst (cutV (List.map V.int x_script) (some (3 : Int)) (some ((3 : Int) + ((1 : Int) + (r1 % x_most))))))
      have f_script := S373.seq f_script
      have hl376 := hl376.mono S373
      have h375 := R.lst (a := Int) h374 hl376
      refine ⟨_, rfl, _, rfl, _, _, _, _, rfl, O372.pre0, f_script, wp_call hk (fun r377 er378 hk F379 H380 g381 => ?_) (fun n hn C H1 hC kp => hn C H1 hC (O372.kp0 kp))⟩
      have O382 := O372.call0 g381
      have S_ := g381.f
      have f_script := S_.seq f_script
      have h375 := h375.mono S_
      obtain ⟨p383, w384, e385, h386, hl387⟩ := R.lst_ h375
      cases e385
      refine ⟨_, rfl, _, rfl, _, _, _, rfl, (.inl (O382.s _ _ h386)), hl387.len, _, _, rfl, rfl, _, _, rfl, rfl, (by decide), _, _, _, _, rfl, O382.pre0, wp_call hk (fun r388 er389 hk F390 H391 g392 p393 w394 hn395 hf396 h397 hl398 => ?_) (fun n hn C H1 hC kp => hn C H1 hC (O382.kp0 kp))⟩
      have O399 := O382.call0 g392
      have S_ := g392.f
      have f_script := S_.seq f_script
      have h375 := h375.mono S_
      have h386 := S_ _ _ h386
      have hl387 := hl387.mono S_
      have O400 := O382.got O399 rfl hn395 hf396 h397
      have z401 := O382.was hn395
      obtain ⟨F402, O403, S404, h405⟩ := O400.frzE 0 rfl z401
      have f_script := S404.seq f_script
      have h375 := h375.mono S404
      have h386 := S404 _ _ h386
      have hl387 := hl387.mono S404
      have hl398 := hl398.mono S404
      have h406 := R.lst (a := Int) h405 hl398
      obtain ⟨p407, w408, e409, h410, hl411⟩ := R.lst_ h375
      cases e409
      obtain ⟨p412, w413, e414, h415, hl416⟩ := R.lst_ h406
      cases e414
      obtain ⟨c417, hk⟩ := wp_chk hk
      refine ⟨_, _, _, _, rfl, rfl, (O403.s _ _ h410), (O403.s _ _ h415), (by rw [hl411.len, hl416.len]; exact le_line c417), fun p418 hp419 => ?_⟩
      have hl425 : RL (a := Int) F402 (w408 ++ w413) ((cutL x_script (some (3 : Int)) (some ((3 : Int) + ((1 : Int) + (r1 % x_most))))) ++ r388) := RL.app hl411 hl416
      obtain ⟨F420, O421, S422, h423⟩ := O403.putE hp419 (.lst (w408 ++ w413))
      have f_script := S422.seq f_script
      have h375 := h375.mono S422
      have h386 := S422 _ _ h386
      have hl387 := hl387.mono S422
      have h406 := h406.mono S422
      have h410 := S422 _ _ h410
      have hl411 := hl411.mono S422
      have h415 := S422 _ _ h415
      have hl416 := hl416.mono S422
      have hl425 := hl425.mono S422
      have h424 := R.lst (a := Int) h423 hl425
      refine ⟨(by show 0 ≤ sizeLine; decide), fun p427 hp428 => ?_⟩
      have hl430 : RL (a := Int) F420 ([]) ([] : List Int) := RL.nil
      have z431 := O421.was hp428
      have O429 := O421.new (o := .lst ([])) hp428
      obtain ⟨c433, hk⟩ := wp_chk hk
      obtain ⟨L434, hL435, hLs436, hLd437⟩ := loopN_L hk
      refine ⟨_, rfl, _, rfl, c433.lo, c433.hi, ?_⟩
      refine for_range (lo := 0) (n := (((1 : Int) + (r1 % x_most))).toNat) (fun i σ H_ => ∃ (F_ : Hp) (st : (List Int)) (w_0 : (List V)) (t_0 : Option V), σ = [some (V.ref a_script), some (V.int x_most), some (V.int r1), some (V.int ((1 : Int) + (r1 % x_most))), some (V.ref p418), some (V.ref p427), t_0, none, none, none, none] ∧ Same F420 F_ ∧ Ow _ F_ [(p427, .lst w_0)] H_ ∧ RL (a := Int) F_ w_0 st ∧ L434 (List.drop i (rangeL 0 ((1 : Int) + (r1 % x_most)))) st) ⟨F420, ([] : List Int), [], none, rfl, Same.refl _, O429, hl430, hL435⟩ ?_ ?_
      · rintro i438 sg440 H441 hi442 ⟨F448, st444, w445, t447, rfl, S443, O449, hl446, hL435⟩
        have f_script := S443.seq f_script
        have h375 := h375.mono S443
        have h386 := S443 _ _ h386
        have hl387 := hl387.mono S443
        have h406 := h406.mono S443
        have h410 := S443 _ _ h410
        have hl411 := hl411.mono S443
        have h415 := S443 _ _ h415
        have hl416 := hl416.mono S443
        have h424 := h424.mono S443
        rw [rangeL_get0 hi442] at hL435
        have hk := hLs436 _ _ _ hL435
        obtain ⟨y432, he_⟩ : ∃ z_, z_ = 0 + (i438 : Int) := ⟨_, rfl⟩
        try rw [← he_] at hk
        rw [← he_]
        obtain ⟨p450, w451, e452, h453, hl454⟩ := R.lst_ h424
        cases e452
        obtain ⟨y455, e456, hk⟩ := wp_opt hk
        obtain ⟨w457, e458, r459⟩ := hl454.atI e456
        obtain rfl := R.int_ r459
        refine ⟨_, rfl, (.inl ⟨rfl, _, SqL.of (O449.at 0 rfl)⟩), _, rfl, _, rfl, _, _, _, _, rfl, rfl, (SqLF O449.s h453), e458, _, _, _, _, rfl, O449.pre0, wp_call hk (fun r460 er461 hk F462 H463 g464 p465 w466 hn467 hf468 h469 hl470 => ?_) (fun n hn C H1 hC kp => hn C H1 hC (O449.kp0 kp))⟩
        have O471 := O449.call0 g464
        have S_ := g464.f
        have f_script := S_.seq f_script
        have h375 := h375.mono S_
        have h386 := S_ _ _ h386
        have hl387 := hl387.mono S_
        have h406 := h406.mono S_
        have h410 := S_ _ _ h410
        have hl411 := hl411.mono S_
        have h415 := S_ _ _ h415
        have hl416 := hl416.mono S_
        have h424 := h424.mono S_
        have hl446 := hl446.mono S_
        have S443 := S443.trans S_
        have h453 := S_ _ _ h453
        have hl454 := hl454.mono S_
        have O472 := O449.got O471 rfl hn467 hf468 h469
        have z473 := O449.was hn467
        obtain ⟨F474, O475, S476, h477⟩ := O472.frzE 0 rfl z473
        have f_script := S476.seq f_script
        have h375 := h375.mono S476
        have h386 := S476 _ _ h386
        have hl387 := hl387.mono S476
        have h406 := h406.mono S476
        have h410 := S476 _ _ h410
        have hl411 := hl411.mono S476
        have h415 := S476 _ _ h415
        have hl416 := hl416.mono S476
        have h424 := h424.mono S476
        have hl446 := hl446.mono S476
        have S443 := S443.trans S476
        have h453 := S476 _ _ h453
        have hl454 := hl454.mono S476
        have hl470 := hl470.mono S476
        have h478 := R.lst (a := Int) h477 hl470
        obtain ⟨p479, w480, e481, h482, hl483⟩ := R.lst_ h478
        cases e481
        obtain ⟨y484, e485, hk⟩ := wp_opt hk
        obtain ⟨w486, e487, r488⟩ := hl483.atI e485
        obtain rfl := R.int_ r488
        obtain ⟨c489, hk⟩ := wp_chk hk
        obtain ⟨c490, hk⟩ := wp_chk hk
        refine ⟨_, _, _, _, rfl, rfl, (SqLF O475.s h482), e487, _, rfl, _, _, _, rfl, (.inl (O475.at 0 rfl)), hl446.len, _, _, rfl, rfl, _, _, rfl, rfl, c489, _, rfl, _, _, _, _, rfl, rfl, (O475.at 0 rfl), (by rw [hl446.len]; exact c490.1), c490.2.1, c490.2.2, ?_⟩
        have O491 := O475.set 0 (.lst (insL w445 (y484 % ((st444.length : Int) + (1 : Int))) (V.int y432))) rfl
        have hl492 : RL (a := Int) F474 (insL w445 (y484 % ((st444.length : Int) + (1 : Int))) (V.int y432)) (insL st444 (y484 % ((st444.length : Int) + (1 : Int))) y432) := RL.ins hl446 (y484 % ((st444.length : Int) + (1 : Int))) R.int
        exact ⟨F474, (insL st444 (y484 % ((st444.length : Int) + (1 : Int))) y432), (insL w445 (y484 % ((st444.length : Int) + (1 : Int))) (V.int y432)), some (V.int y432), rfl, S443, O491, hl492, hk⟩
      rintro sg493 H494 ⟨F501, st496, w498, t500, rfl, S495, O502, hl499, hL497⟩
      rw [rangeL_end0] at hL497
      have hk := hLd437 _ hL497
      have f_script := S495.seq f_script
      have h375 := h375.mono S495
      have h386 := S495 _ _ h386
      have hl387 := hl387.mono S495
      have h406 := h406.mono S495
      have h410 := S495 _ _ h410
      have hl411 := hl411.mono S495
      have h415 := S495 _ _ h415
      have hl416 := hl416.mono S495
      have h424 := h424.mono S495
      refine ⟨(by show 1 ≤ sizeLine; decide), fun p504 hp505 => ?_⟩
      have hl511 : RL (a := Int) F501 ([V.int (0 : Int)]) ([(0 : Int)]) := RL.cons R.int RL.nil
      obtain ⟨F506, O507, S508, h509⟩ := O502.putE hp505 (.lst ([V.int (0 : Int)]))
      have f_script := S508.seq f_script
      have h375 := h375.mono S508
      have h386 := S508 _ _ h386
      have hl387 := hl387.mono S508
      have h406 := h406.mono S508
      have h410 := S508 _ _ h410
      have hl411 := hl411.mono S508
      have h415 := S508 _ _ h415
      have hl416 := hl416.mono S508
      have h424 := h424.mono S508
      have hl499 := hl499.mono S508
      have hl511 := hl511.mono S508
      have h510 := R.lst (a := Int) h509 hl511
      obtain ⟨p512, w513, e514, h515, hl516⟩ := R.lst_ h510
      cases e514
      obtain ⟨c517, hk⟩ := wp_chk hk
      refine ⟨_, rfl, _, _, _, rfl, rfl, (O507.s _ _ h515), c517.1, c517.2.1, (by rw [hl516.len]; exact le_line c517.2.2), fun p518 hp519 => ?_⟩
      have hl521 : RL (a := Int) F506 (repL ((1 : Int) + (r1 % x_most)) w513) (repL ((1 : Int) + (r1 % x_most)) ([(0 : Int)])) := RL.rep hl516 ((1 : Int) + (r1 % x_most))
      have z522 := O507.was hp519
      have O520 := O507.new (o := .lst (repL ((1 : Int) + (r1 % x_most)) w513)) hp519
      refine ⟨(by show 0 ≤ sizeLine; decide), fun p524 hp525 => ?_⟩
      have hl527 : RL (a := (T3 Int Int Int)) F506 ([]) ([] : List (T3 Int Int Int)) := RL.nil
      have z528 := O520.was hp525
      have O526 := O520.new (o := .lst ([])) hp525
      obtain ⟨c530, hk⟩ := wp_chk hk
      obtain ⟨L531, hL532, hLs533, hLd534⟩ := loopN_L hk
      refine ⟨_, rfl, _, rfl, c530.lo, c530.hi, ?_⟩
      refine for_range (lo := 0) (n := (((1 : Int) + (r1 % x_most))).toNat) (fun i σ H_ => ∃ (F_ : Hp) (st : (List Int) × (List (T3 Int Int Int))) (w_0 : (List V)) (w_1 : (List V)) (t_0 : Option V) (t_1 : Option V) (t_2 : Option V), σ = [some (V.ref a_script), some (V.int x_most), some (V.int r1), some (V.int ((1 : Int) + (r1 % x_most))), some (V.ref p418), some (V.ref p427), t_0, some (V.ref p518), some (V.ref p524), t_1, t_2] ∧ Same F506 F_ ∧ Ow _ F_ [(p524, .lst w_1), (p518, .lst w_0), (p427, .lst w498)] H_ ∧ RL (a := Int) F_ w_0 st.1 ∧ RL (a := (T3 Int Int Int)) F_ w_1 st.2 ∧ L531 (List.drop i (rangeL 0 ((1 : Int) + (r1 % x_most)))) st) ⟨F506, ((repL ((1 : Int) + (r1 % x_most)) ([(0 : Int)])), ([] : List (T3 Int Int Int))), repL ((1 : Int) + (r1 % x_most)) w513, [], t500, none, none, rfl, Same.refl _, O526, hl521, hl527, hL532⟩ ?_ ?_
      · rintro i535 sg537 H538 hi539 ⟨F549, st541, w542, w543, t546, t547, t548, rfl, S540, O550, hl544, hl545, hL532⟩
        have f_script := S540.seq f_script
        have h375 := h375.mono S540
        have h386 := S540 _ _ h386
        have hl387 := hl387.mono S540
        have h406 := h406.mono S540
        have h410 := S540 _ _ h410
        have hl411 := hl411.mono S540
        have h415 := S540 _ _ h415
        have hl416 := hl416.mono S540
        have h424 := h424.mono S540
        have hl499 := hl499.mono S540
        have h510 := h510.mono S540
        have h515 := S540 _ _ h515
        have hl516 := hl516.mono S540
        rw [rangeL_get0 hi539] at hL532
        have hk := hLs533 _ _ _ hL532
        obtain ⟨y529, he_⟩ : ∃ z_, z_ = 0 + (i535 : Int) := ⟨_, rfl⟩
        try rw [← he_] at hk
        rw [← he_]
        obtain ⟨p551, w552, e553, h554, hl555⟩ := R.lst_ h424
        cases e553
        obtain ⟨y556, e557, hk⟩ := wp_opt hk
        obtain ⟨w558, e559, r560⟩ := hl555.atI e557
        obtain rfl := R.int_ r560
        refine ⟨_, rfl, _, rfl, _, _, _, _, rfl, rfl, (SqLF O550.s h554), e559, _, _, rfl, rfl, (by decide), _, _, _, _, rfl, O550.pre0, wp_call hk (fun r561 er562 hk F563 H564 g565 p566 w567 hn568 hf569 h570 hl571 => ?_) (fun n hn C H1 hC kp => hn C H1 hC (O550.kp0 kp))⟩
        have O572 := O550.call0 g565
        have S_ := g565.f
        have f_script := S_.seq f_script
        have h375 := h375.mono S_
        have h386 := S_ _ _ h386
        have hl387 := hl387.mono S_
        have h406 := h406.mono S_
        have h410 := S_ _ _ h410
        have hl411 := hl411.mono S_
        have h415 := S_ _ _ h415
        have hl416 := hl416.mono S_
        have h424 := h424.mono S_
        have hl499 := hl499.mono S_
        have h510 := h510.mono S_
        have h515 := S_ _ _ h515
        have hl516 := hl516.mono S_
        have hl544 := hl544.mono S_
        have hl545 := hl545.mono S_
        have S540 := S540.trans S_
        have h554 := S_ _ _ h554
        have hl555 := hl555.mono S_
        have O573 := O550.got O572 rfl hn568 hf569 h570
        have z574 := O550.was hn568
        obtain ⟨F575, O576, S577, h578⟩ := O573.frzE 0 rfl z574
        have f_script := S577.seq f_script
        have h375 := h375.mono S577
        have h386 := S577 _ _ h386
        have hl387 := hl387.mono S577
        have h406 := h406.mono S577
        have h410 := S577 _ _ h410
        have hl411 := hl411.mono S577
        have h415 := S577 _ _ h415
        have hl416 := hl416.mono S577
        have h424 := h424.mono S577
        have hl499 := hl499.mono S577
        have h510 := h510.mono S577
        have h515 := S577 _ _ h515
        have hl516 := hl516.mono S577
        have hl544 := hl544.mono S577
        have hl545 := hl545.mono S577
        have S540 := S540.trans S577
        have h554 := S577 _ _ h554
        have hl555 := hl555.mono S577
        have hl571 := hl571.mono S577
        have h579 := R.lst (a := Int) h578 hl571
        obtain ⟨p580, w581, e582, h583, hl584⟩ := R.lst_ h579
        cases e582
        obtain ⟨y585, e586, hk⟩ := wp_opt hk
        obtain ⟨w587, e588, r589⟩ := hl584.atI e586
        obtain rfl := R.int_ r589
        refine ⟨_, rfl, _, _, _, _, rfl, rfl, (SqLF O576.s h583), e588, _, _, rfl, O576.pre0, wp_call hk (fun r590 er591 hk F592 H593 g594 => ?_) (fun n hn C H1 hC kp => hn C H1 hC (O576.kp0 kp))⟩
        have O595 := O576.call0 g594
        have S_ := g594.f
        have f_script := S_.seq f_script
        have h375 := h375.mono S_
        have h386 := S_ _ _ h386
        have hl387 := hl387.mono S_
        have h406 := h406.mono S_
        have h410 := S_ _ _ h410
        have hl411 := hl411.mono S_
        have h415 := S_ _ _ h415
        have hl416 := hl416.mono S_
        have h424 := h424.mono S_
        have hl499 := hl499.mono S_
        have h510 := h510.mono S_
        have h515 := S_ _ _ h515
        have hl516 := hl516.mono S_
        have hl544 := hl544.mono S_
        have hl545 := hl545.mono S_
        have S540 := S540.trans S_
        have h554 := S_ _ _ h554
        have hl555 := hl555.mono S_
        have h579 := h579.mono S_
        have h583 := S_ _ _ h583
        have hl584 := hl584.mono S_
        obtain ⟨y596, e597, hk⟩ := wp_opt hk
        obtain ⟨w598, e599, r600⟩ := hl499.atI e597
        obtain rfl := R.int_ r600
        obtain ⟨j601, e602, hk⟩ := wp_setI hk
        refine ⟨_, rfl, _, rfl, _, rfl, _, _, _, _, rfl, rfl, (SqL.of (O595.at 2 rfl)), e599, _, _, _, _, rfl, rfl, (O595.at 1 rfl), (by rw [hl544.len]; exact e602), ?_⟩
        have O604 := O595.set 1 (.lst (w542.set j601 (V.int r590))) rfl
        have hl605 : RL (a := Int) F592 (w542.set j601 (V.int r590)) (st541.1.set j601 r590) := RL.set j601 hl544 R.int
        refine ⟨_, rfl, _, _, rfl, rfl, _, rfl, ?_⟩
        refine iteD (fun q606 => ?_) (fun q606 => ?_)
        · have hk := wp_if hk q606
          obtain ⟨p607, w608, e609, h610, hl611⟩ := R.lst_ h579
          cases e609
          obtain ⟨y612, e613, hk⟩ := wp_opt hk
          obtain ⟨w614, e615, r616⟩ := hl611.atI e613
          obtain rfl := R.int_ r616
          refine ⟨_, rfl, _, rfl, _, _, rfl, rfl, _, rfl, _, _, _, _, rfl, rfl, (SqLF O604.s h610), e615, _, rfl, _, rfl, _, _, rfl, _, rfl, _, _, rfl, (by show 3 ≤ sizeLine; decide), fun p617 hp618 => ?_⟩
          have hl624 : RL (a := Int) F592 ([V.int y529, V.int (if (2 : Int) < y529 then (2 : Int) else y529), V.int (if (5 : Int) < y529 then (5 : Int) else y529)]) ([y529, (if (2 : Int) < y529 then (2 : Int) else y529), (if (5 : Int) < y529 then (5 : Int) else y529)]) := RL.cons R.int (RL.cons R.int (RL.cons R.int RL.nil))
          obtain ⟨F619, O620, S621, h622⟩ := O604.putE hp618 (.lst ([V.int y529, V.int (if (2 : Int) < y529 then (2 : Int) else y529), V.int (if (5 : Int) < y529 then (5 : Int) else y529)]))
          have f_script := S621.seq f_script
          have h375 := h375.mono S621
          have h386 := S621 _ _ h386
          have hl387 := hl387.mono S621
          have h406 := h406.mono S621
          have h410 := S621 _ _ h410
          have hl411 := hl411.mono S621
          have h415 := S621 _ _ h415
          have hl416 := hl416.mono S621
          have h424 := h424.mono S621
          have hl499 := hl499.mono S621
          have h510 := h510.mono S621
          have h515 := S621 _ _ h515
          have hl516 := hl516.mono S621
          have hl545 := hl545.mono S621
          have S540 := S540.trans S621
          have h554 := S621 _ _ h554
          have hl555 := hl555.mono S621
          have h579 := h579.mono S621
          have h583 := S621 _ _ h583
          have hl584 := hl584.mono S621
          have hl605 := hl605.mono S621
          have h610 := S621 _ _ h610
          have hl611 := hl611.mono S621
          have hl624 := hl624.mono S621
          have h623 := R.lst (a := Int) h622 hl624
          obtain ⟨p625, w626, e627, h628, hl629⟩ := R.lst_ h579
          cases e627
          obtain ⟨y630, e631, hk⟩ := wp_opt hk
          obtain ⟨w632, e633, r634⟩ := hl629.atI e631
          obtain rfl := R.int_ r634
          obtain ⟨c635, hk⟩ := wp_chk hk
          obtain ⟨c636, hk⟩ := wp_chk hk
          obtain ⟨p637, w638, e639, h640, hl641⟩ := R.lst_ h623
          cases e639
          obtain ⟨y642, e643, hk⟩ := wp_opt hk
          obtain ⟨w644, e645, r646⟩ := hl641.atI e643
          obtain rfl := R.int_ r646
          obtain ⟨c647, hk⟩ := wp_chk hk
          obtain ⟨y648, e649, hk⟩ := wp_opt hk
          obtain ⟨w650, e651, r652⟩ := hl499.atI e649
          obtain rfl := R.int_ r652
          obtain ⟨y653, e654, hk⟩ := wp_opt hk
          obtain ⟨w655, e656, r657⟩ := hl499.atI e654
          obtain rfl := R.int_ r657
          obtain ⟨y658, e659, hk⟩ := wp_opt hk
          obtain ⟨w660, e661, r662⟩ := hl499.atI e659
          obtain rfl := R.int_ r662
          obtain ⟨p663, w664, e665, h666, hl667⟩ := R.lst_ h579
          cases e665
          obtain ⟨y668, e669, hk⟩ := wp_opt hk
          obtain ⟨w670, e671, r672⟩ := hl667.atI e669
          obtain rfl := R.int_ r672
          refine ⟨_, rfl, _, _, _, _, rfl, rfl, (SqLF O620.s h628), e633, _, _, rfl, rfl, c635, _, _, rfl, rfl, c636, _, _, _, _, rfl, rfl, (SqLF O620.s h640), e645, _, _, rfl, rfl, c647, _, _, rfl, rfl, _, _, _, _, rfl, rfl, (SqL.of (O620.at 2 rfl)), e651, _, rfl, (.inl ⟨rfl, _, SqL.of (O620.at 0 rfl)⟩), _, rfl, _, rfl, _, rfl, _, _, _, _, rfl, rfl, (SqL.of (O620.at 2 rfl)), e656, _, _, rfl, _, rfl, _, rfl, _, rfl, _, _, _, _, rfl, rfl, (SqL.of (O620.at 2 rfl)), e661, _, _, rfl, _, rfl, _, _, _, _, rfl, rfl, (SqLF O620.s h666), e671, _, _, rfl, O620.pre0, wp_call hk (fun r673 er674 hk F675 H676 g677 => ?_) (fun n hn C H1 hC kp => hn C H1 hC (O620.kp0 kp))⟩
          have O678 := O620.call0 g677
          have S_ := g677.f
          have f_script := S_.seq f_script
          have h375 := h375.mono S_
          have h386 := S_ _ _ h386
          have hl387 := hl387.mono S_
          have h406 := h406.mono S_
          have h410 := S_ _ _ h410
          have hl411 := hl411.mono S_
          have h415 := S_ _ _ h415
          have hl416 := hl416.mono S_
          have h424 := h424.mono S_
          have hl499 := hl499.mono S_
          have h510 := h510.mono S_
          have h515 := S_ _ _ h515
          have hl516 := hl516.mono S_
          have hl545 := hl545.mono S_
          have S540 := S540.trans S_
          have h554 := S_ _ _ h554
          have hl555 := hl555.mono S_
          have h579 := h579.mono S_
          have h583 := S_ _ _ h583
          have hl584 := hl584.mono S_
          have hl605 := hl605.mono S_
          have h610 := S_ _ _ h610
          have hl611 := hl611.mono S_
          have h623 := h623.mono S_
          have h628 := S_ _ _ h628
          have hl629 := hl629.mono S_
          have h640 := S_ _ _ h640
          have hl641 := hl641.mono S_
          have h666 := S_ _ _ h666
          have hl667 := hl667.mono S_
          refine ⟨(by show 3 ≤ sizeLine; decide), fun p679 hp680 => ?_⟩
          obtain ⟨F681, O682, S683, h684⟩ := O678.putE hp680 (.tup [V.int (if y653 < y648 then y653 else y648), V.int (if y658 > y648 then y658 else y648), V.int r673])
          have f_script := S683.seq f_script
          have h375 := h375.mono S683
          have h386 := S683 _ _ h386
          have hl387 := hl387.mono S683
          have h406 := h406.mono S683
          have h410 := S683 _ _ h410
          have hl411 := hl411.mono S683
          have h415 := S683 _ _ h415
          have hl416 := hl416.mono S683
          have h424 := h424.mono S683
          have hl499 := hl499.mono S683
          have h510 := h510.mono S683
          have h515 := S683 _ _ h515
          have hl516 := hl516.mono S683
          have hl545 := hl545.mono S683
          have S540 := S540.trans S683
          have h554 := S683 _ _ h554
          have hl555 := hl555.mono S683
          have h579 := h579.mono S683
          have h583 := S683 _ _ h583
          have hl584 := hl584.mono S683
          have hl605 := hl605.mono S683
          have h610 := S683 _ _ h610
          have hl611 := hl611.mono S683
          have h623 := h623.mono S683
          have h628 := S683 _ _ h628
          have hl629 := hl629.mono S683
          have h640 := S683 _ _ h640
          have hl641 := hl641.mono S683
          have h666 := S683 _ _ h666
          have hl667 := hl667.mono S683
          have h685 : R (a := (T3 Int Int Int)) F681 (.ref p679) (T3.mk (if y653 < y648 then y653 else y648) (if y658 > y648 then y658 else y648) r673) := R.t3 h684 R.int R.int R.int
          obtain ⟨c686, hk⟩ := wp_appL hk
          refine ⟨_, _, _, rfl, rfl, (O682.at 0 rfl), (by rw [hl545.len]; exact c686), ?_⟩
          have O688 := O682.set 0 (.lst (w543 ++ [V.ref p679])) rfl
          have hl689 : RL (a := (T3 Int Int Int)) F681 (w543 ++ [V.ref p679]) (st541.2 ++ [(T3.mk (if y653 < y648 then y653 else y648) (if y658 > y648 then y658 else y648) r673)]) := RL.snoc hl545 h685
          exact ⟨F681, ((st541.1.set j601 r590), (st541.2 ++ [(T3.mk (if y653 < y648 then y653 else y648) (if y658 > y648 then y658 else y648) r673)])), (w542.set j601 (V.int r590)), (w543 ++ [V.ref p679]), some (V.int y529), some (V.ref p566), some (V.int y648), rfl, S540, O688, hl605, hl689, hk⟩
        · have hk := wp_el hk q606
          exact ⟨F592, ((st541.1.set j601 r590), st541.2), (w542.set j601 (V.int r590)), w543, some (V.int y529), some (V.ref p566), t548, rfl, S540, O604, hl605, hl545, hk⟩
      rintro sg690 H691 ⟨F702, st693, w695, w696, t699, t700, t701, rfl, S692, O703, hl697, hl698, hL694⟩
      rw [rangeL_end0] at hL694
      have hk := hLd534 _ hL694
      have f_script := S692.seq f_script
      have h375 := h375.mono S692
      have h386 := S692 _ _ h386
      have hl387 := hl387.mono S692
      have h406 := h406.mono S692
      have h410 := S692 _ _ h410
      have hl411 := hl411.mono S692
      have h415 := S692 _ _ h415
      have hl416 := hl416.mono S692
      have h424 := h424.mono S692
      have hl499 := hl499.mono S692
      have h510 := h510.mono S692
      have h515 := S692 _ _ h515
      have hl516 := hl516.mono S692
      refine ⟨_, rfl, _, rfl, _, _, _, rfl, (O703.at 0 rfl), (RL.mono hl698 O703.s), fun p704 hp705 => ?_⟩
      have hl711 : RL (a := (T3 Int Int Int)) F702 (sortV w696 st693.2) (sortT st693.2) := (RL.sorted hl698)
      obtain ⟨F706, O707, S708, h709⟩ := O703.putE hp705 (.lst (sortV w696 st693.2))
      have f_script := S708.seq f_script
      have h375 := h375.mono S708
      have h386 := S708 _ _ h386
      have hl387 := hl387.mono S708
      have h406 := h406.mono S708
      have h410 := S708 _ _ h410
      have hl411 := hl411.mono S708
      have h415 := S708 _ _ h415
      have hl416 := hl416.mono S708
      have h424 := h424.mono S708
      have hl499 := hl499.mono S708
      have h510 := h510.mono S708
      have h515 := S708 _ _ h515
      have hl516 := hl516.mono S708
      have hl697 := hl697.mono S708
      have hl698 := hl698.mono S708
      have hl711 := hl711.mono S708
      have h710 := R.lst (a := (T3 Int Int Int)) h709 hl711
      obtain ⟨F712, O713, S714, h715⟩ := O707.frzE 1 rfl z522
      have f_script := S714.seq f_script
      have h375 := h375.mono S714
      have h386 := S714 _ _ h386
      have hl387 := hl387.mono S714
      have h406 := h406.mono S714
      have h410 := S714 _ _ h410
      have hl411 := hl411.mono S714
      have h415 := S714 _ _ h415
      have hl416 := hl416.mono S714
      have h424 := h424.mono S714
      have hl499 := hl499.mono S714
      have h510 := h510.mono S714
      have h515 := S714 _ _ h515
      have hl516 := hl516.mono S714
      have hl697 := hl697.mono S714
      have hl698 := hl698.mono S714
      have h710 := h710.mono S714
      have h716 := R.lst (a := Int) h715 hl697
      refine ⟨(by show 2 ≤ sizeLine; decide), fun p717 hp718 => ?_⟩
      obtain ⟨F719, O720, S721, h722⟩ := O713.putE hp718 (.tup [V.ref p518, V.ref p704])
      have f_script := S721.seq f_script
      have h375 := h375.mono S721
      have h386 := S721 _ _ h386
      have hl387 := hl387.mono S721
      have h406 := h406.mono S721
      have h410 := S721 _ _ h410
      have hl411 := hl411.mono S721
      have h415 := S721 _ _ h415
      have hl416 := hl416.mono S721
      have h424 := h424.mono S721
      have hl499 := hl499.mono S721
      have h510 := h510.mono S721
      have h515 := S721 _ _ h515
      have hl516 := hl516.mono S721
      have hl698 := hl698.mono S721
      have h710 := h710.mono S721
      have h716 := h716.mono S721
      have h723 : R (a := ((List Int) × (List (T3 Int Int Int)))) F719 (.ref p717) (st693.1, (sortT st693.2)) := R.t2 h722 h716 h710
      exact hk _ _  O720.g  _ h723
abbrev s_law_copy : Stmt := top 17
theorem sc_law_copy : FnScope ["tree"] ["tree"] (defScope s_law_copy) := ⟨rfl, rfl, rfl, by decide +kernel, rfl, by decide +kernel, by decide +kernel⟩
def m_law_copy (x_tree : ((List Int) × (List (T3 Int Int Int)))) : M (((List Int) × (List (T3 Int Int Int)))) :=
.ok (x_tree.1, x_tree.2)
def sp_law_copy (mg : Str → Option Value) : Sp := fun vs H Q E => ∃ (F : Hp) (v_tree : V) (x_tree : ((List Int) × (List (T3 Int Int Int)))), vs = [v_tree] ∧ Pre F [] H ∧ R (a := ((List Int) × (List (T3 Int Int Int)))) F v_tree x_tree ∧
  wp (m_law_copy x_tree) (fun r => ∀ (F' H' : Hp), Gr [] F H F' H' → ∀ v : V, R (a := ((List Int) × (List (T3 Int Int Int)))) F' v r → Q v H')
  (fun n => ∀ (C : Addr) (H' : Hp), mg (Str.ofString n) = some (.ref C) → Kp [] H H' → E (.ref C) none H')
set_option maxHeartbeats 2000000 in
theorem ok_law_copy (nb : Nb mg) (D : Df K mg "_law_copy" "_law_copy" s_law_copy ["tree"]) : Ca P w K mg base "_law_copy" 1 ["tree"] (sp_law_copy mg) := by
  refine Ca.mk' D sc_law_copy (fun vs H Q E h => ?_) (fun q_ f_ cdv A outer s H vs Q E hr h => ?_)
  · obtain ⟨F, _, _, rfl, _⟩ := h
    rfl
  · obtain ⟨F, v_tree, x_tree, rfl, P0, f_tree, hk⟩ := h
    have nd := sc_law_copy.nd
    have hu64 := hr.units
    have hu128 := hu128_of hr
    have O := P0.start
    refine ⟨_, (pss_one (ps_ret (pe_tup (pa_cons (pe_callTy (listOfK (K := K) rfl) (by rfl) nb.b_list (by decide +kernel) (pa_cons (pe_ix (ixTupK (K := K) rfl) (pv 0) pe_int (fun _ _ => rfl)) pa_nil)) (pa_cons (pe_callTy (listOfK (K := K) rfl) (by rfl) nb.b_list (by decide +kernel) (pa_cons (pe_ix (ixTupK (K := K) rfl) (pv 0) pe_int (fun _ _ => rfl)) pa_nil)) pa_nil))))), ?_⟩
    obtain ⟨p1, v4, v5, e2, h3, r6, r7⟩ := R.t2_ f_tree
    cases e2
    obtain ⟨p8, w9, e10, h11, hl12⟩ := R.lst_ r6
    cases e10
    refine ⟨_, rfl, _, _, _, _, rfl, rfl, (SqTF O.s h3), rfl, _, _, rfl, (.inl (SqLF O.s h11)), fun p13 hp14 => ?_⟩
    have hl20 : RL (a := Int) F w9 x_tree.1 := hl12
    obtain ⟨F15, O16, S17, h18⟩ := O.putE hp14 (.lst w9)
    have f_tree := f_tree.mono S17
    have h3 := S17 _ _ h3
    have r6 := r6.mono S17
    have r7 := r7.mono S17
    have h11 := S17 _ _ h11
    have hl12 := hl12.mono S17
    have hl20 := hl20.mono S17
    have h19 := R.lst (a := Int) h18 hl20
    obtain ⟨p21, w22, e23, h24, hl25⟩ := R.lst_ r7
    cases e23
    refine ⟨_, rfl, _, _, _, _, rfl, rfl, (SqTF O16.s h3), rfl, _, _, rfl, (.inl (SqLF O16.s h24)), fun p26 hp27 => ?_⟩
    have hl33 : RL (a := (T3 Int Int Int)) F15 w22 x_tree.2 := hl25
    obtain ⟨F28, O29, S30, h31⟩ := O16.putE hp27 (.lst w22)
    have f_tree := f_tree.mono S30
    have h3 := S30 _ _ h3
    have r6 := r6.mono S30
    have r7 := r7.mono S30
    have h11 := S30 _ _ h11
    have hl12 := hl12.mono S30
    have h19 := h19.mono S30
    have h24 := S30 _ _ h24
    have hl25 := hl25.mono S30
    have hl33 := hl33.mono S30
    have h32 := R.lst (a := (T3 Int Int Int)) h31 hl33
    refine ⟨(by show 2 ≤ sizeLine; decide), fun p34 hp35 => ?_⟩
    obtain ⟨F36, O37, S38, h39⟩ := O29.putE hp35 (.tup [V.ref p13, V.ref p26])
    have f_tree := f_tree.mono S38
    have h3 := S38 _ _ h3
    have r6 := r6.mono S38
    have r7 := r7.mono S38
    have h11 := S38 _ _ h11
    have hl12 := hl12.mono S38
    have h19 := h19.mono S38
    have h24 := S38 _ _ h24
    have hl25 := hl25.mono S38
    have h32 := h32.mono S38
    have h40 : R (a := ((List Int) × (List (T3 Int Int Int)))) F36 (.ref p34) (x_tree.1, x_tree.2) := R.t2 h39 h19 h32
    exact hk _ _  O37.g  _ h40
abbrev s_law_greatest : Stmt := top 18
theorem sc_law_greatest : FnScope ["tree", "without", "parts", "a", "b", "length", "place", "one", "other", "part"] ["tree", "without"] (defScope s_law_greatest) := ⟨rfl, rfl, rfl, by decide +kernel, rfl, by decide +kernel, by decide +kernel⟩
def m_law_greatest (x_tree : ((List Int) × (List (T3 Int Int Int)))) (x_without : Int) : M (Int) :=
chk (okR (x_tree.1.length : Int)) >>= fun _ =>
compS (fun (y14 : Int) (st32 : Unit) =>
if y14 ≠ x_without then (
.ok (some ([y14]), ()))
else (
.ok (none, ()))) (rangeL 0 (x_tree.1.length : Int)) () >>= fun q56 =>
loopN (fun (y62 : (T3 Int Int Int)) (st73 : (List (List Int))) =>
if x_without ∉ ([(y62.a, y62.b).1, (y62.a, y62.b).2]) then (
compS (fun (y109 : (List Int)) (st126 : Unit) =>
if y62.a ∈ y109 then (
.ok (some y109, ()))
else (
.ok (none, ()))) st73 () >>= fun q149 =>
opt (atI q149.1 (0 : Int)) >>= fun y160 =>
compS (fun (y165 : (List Int)) (st182 : Unit) =>
if y62.b ∈ y165 then (
.ok (some y165, ()))
else (
.ok (none, ()))) st73 () >>= fun q205 =>
opt (atI q205.1 (0 : Int)) >>= fun y216 =>
chk (y160 ∈ st73) >>= fun _ =>
chk (y216 ∈ (remL st73 y160)) >>= fun _ =>
chk (y160.length + y216.length < 16777216) >>= fun _ =>
appL (remL (remL st73 y160) y216) (y160 ++ y216) >>= fun _ =>
.ok ((remL (remL st73 y160) y216) ++ [(y160 ++ y216)]))
else (
.ok st73)) x_tree.2 q56.1 >>= fun st253 =>
compS (fun (y272 : (List Int)) (st289 : Unit) =>
.ok (some (y272.length : Int), ())) st253 () >>= fun q311 =>
chk (([(0 : Int)]).length + q311.1.length < 16777216) >>= fun _ =>
opt (mxI (([(0 : Int)]) ++ q311.1)) >>= fun y341 =>
.ok y341
def sp_law_greatest (mg : Str → Option Value) : Sp := fun vs H Q E => ∃ (F : Hp) (v_tree : V) (x_tree : ((List Int) × (List (T3 Int Int Int)))) (x_without : Int), vs = [v_tree, V.int x_without] ∧ Pre F [] H ∧ R (a := ((List Int) × (List (T3 Int Int Int)))) F v_tree x_tree ∧
  wp (m_law_greatest x_tree x_without) (fun r => ∀ (F' H' : Hp), Gr [] F H F' H' → Q (V.int r) H')
  (fun n => ∀ (C : Addr) (H' : Hp), mg (Str.ofString n) = some (.ref C) → Kp [] H H' → E (.ref C) none H')
set_option maxHeartbeats 2000000 in
theorem ok_law_greatest (nb : Nb mg) (D : Df K mg "_law_greatest" "_law_greatest" s_law_greatest ["tree", "without"]) : Ca P w K mg base "_law_greatest" 1 ["tree", "without"] (sp_law_greatest mg) := by
  refine Ca.mk' D sc_law_greatest (fun vs H Q E h => ?_) (fun q_ f_ cdv A outer s H vs Q E hr h => ?_)
  · obtain ⟨F, _, _, _, rfl, _⟩ := h
    rfl
  · obtain ⟨F, v_tree, x_tree, x_without, rfl, P0, f_tree, hk⟩ := h
    have nd := sc_law_greatest.nd
    have hu64 := hr.units
    have hu128 := hu128_of hr
    have O := P0.start
    refine ⟨_, (pss_cons (ps_setLc (i := 2) (own := [("place", 6)]) (g := gName 6) (tt := _) rfl nd rfl rfl (sw_true rfl rfl rfl (by decide +kernel)) (pi_range1 rfl nb.b_range (pa_cons (pe_callB call_lenT (by rfl) nb.b_len PySem.boot_len (pa_cons (pe_ix (ixTupK (K := K) rfl) (pv 0) pe_int (fun _ _ => rfl)) pa_nil)) pa_nil)) (blkOk_by (own := [("place", 6)]) (N := ["tree", "without", "parts", "a", "b", "length", "place", "one", "other", "part"]) (sc := defScope s_law_greatest) (by decide +kernel)) (fun _ _ _ _ _ => (pg_name (i := 6) nd rfl (Or.inl rfl))) (fun _ _ _ _ _ => (pts_one (pt_cmpR (op_neT Int hu64) (pv 6) (pv 1) (nomark _)))) (fun _ _ _ _ _ => (pe_lst (pa_cons (pv 6) pa_nil))))
  (pss_cons (ps_for (passes_of rfl) rfl (piListK (K := K) rfl (pe_ix (ixTupK (K := K) rfl) (pv 0) pe_int (fun _ _ => rfl))) (pg_tup rfl (pgs_cons (pg_name (i := 3) nd rfl (Or.inr rfl)) (pgs_cons (pg_name (i := 4) nd rfl (Or.inr rfl)) (pgs_cons (pg_name (i := 5) nd rfl (Or.inl rfl)) pgs_nil)))) (pss_one (ps_if (pt_cmpR (op_ninT Int hu64) (pv 1) (pe_tup (pa_cons (pv 3) (pa_cons (pv 4) pa_nil))) rfl) (pss_cons (ps_set (i := 7) nd rfl (Or.inl rfl) (pe_ix (ixListK (K := K) rfl) (pe_lc (own := [("part", 9)]) (g := gName 9) (tt := _) rfl nd (piListK (K := K) rfl (pv 2)) (blkOk_by (own := [("part", 9)]) (N := ["tree", "without", "parts", "a", "b", "length", "place", "one", "other", "part"]) (sc := defScope s_law_greatest) (by decide +kernel)) (fun _ _ _ _ _ => (pg_name (i := 9) nd rfl (Or.inl rfl))) (fun _ _ _ _ _ => (pts_one (pt_cmpR (op_inT Int hu64) (pv 3) (pv 9) rfl))) (fun _ _ _ _ _ => (pv 9))) pe_int (fun _ _ => rfl)))
  (pss_cons (ps_set (i := 8) nd rfl (Or.inl rfl) (pe_ix (ixListK (K := K) rfl) (pe_lc (own := [("part", 9)]) (g := gName 9) (tt := _) rfl nd (piListK (K := K) rfl (pv 2)) (blkOk_by (own := [("part", 9)]) (N := ["tree", "without", "parts", "a", "b", "length", "place", "one", "other", "part"]) (sc := defScope s_law_greatest) (by decide +kernel)) (fun _ _ _ _ _ => (pg_name (i := 9) nd rfl (Or.inl rfl))) (fun _ _ _ _ _ => (pts_one (pt_cmpR (op_inT Int hu64) (pv 4) (pv 9) rfl))) (fun _ _ _ _ _ => (pv 9))) pe_int (fun _ _ => rfl)))
  (pss_cons (ps_expr (bmK (K := K) rfl (pe_bm PySem.F.plainAttrs_list PySem.F.slot_list_remove PySem.F.type_list_remove (mt_removeT (List Int) hu64) (pv 2) (pa_cons (pv 7) pa_nil))))
  (pss_cons (ps_expr (bmK (K := K) rfl (pe_bm PySem.F.plainAttrs_list PySem.F.slot_list_remove PySem.F.type_list_remove (mt_removeT (List Int) hu64) (pv 2) (pa_cons (pv 8) pa_nil))))
  (pss_one (ps_expr (bmK (K := K) rfl (pe_bm PySem.F.plainAttrs_list PySem.F.slot_list_append PySem.F.type_list_append mt_append (pv 2) (pa_cons (pe_op op_cat (pv 7) (pv 8)) pa_nil))))))))) pss_nil)))
  (pss_one (ps_ret (pe_callB (cr_maxK (K := K) rfl rfl) (by rfl) nb.b_max (by decide +kernel) (pa_cons (pe_op op_cat (pe_lst (pa_cons pe_int pa_nil)) (pe_lc (own := [("part", 9)]) (g := gName 9) (tt := _) rfl nd (piListK (K := K) rfl (pv 2)) (blkOk_by (own := [("part", 9)]) (N := ["tree", "without", "parts", "a", "b", "length", "place", "one", "other", "part"]) (sc := defScope s_law_greatest) (by decide +kernel)) (fun _ _ _ _ _ => (pg_name (i := 9) nd rfl (Or.inl rfl))) (fun _ _ _ _ _ => pts_nil) (fun _ _ _ _ _ => (pe_callB call_lenT (by rfl) nb.b_len PySem.boot_len (pa_cons (pv 9) pa_nil))))) pa_nil)))))), ?_⟩
    obtain ⟨p2, v5, v6, e3, h4, r7, r8⟩ := R.t2_ f_tree
    cases e3
    obtain ⟨p9, w10, e11, h12, hl13⟩ := R.lst_ r7
    cases e11
    obtain ⟨c15, hk⟩ := wp_chk hk
    obtain ⟨c20, L16, hL17, hLs18, hLd19⟩ := compS_L hk
    refine ⟨_, rfl, _, _, _, _, rfl, rfl, (SqTF O.s h4), rfl, _, _, _, rfl, (.inl (O.s _ _ h12)), hl13.len, _, rfl, c15.lo, c15.hi, fun p21 hp22 => ?_⟩
    have z45 := O.was hp22
    refine lc_range (lo := 0) (n := ((x_tree.1.length : Int)).toNat) (fun i H => ∃ (F_ : Hp) (st : Unit) (acc : List (List Int)) (wa : List V), Same F F_ ∧ Ow _ F_ [(p21, .lst wa)] H ∧ RL F_ wa acc ∧ wa.length ≤ i ∧ L16 (List.drop i (rangeL 0 (x_tree.1.length : Int))) acc st) ⟨F, (), [], [], Same.refl _, O.new hp22, RL.nil, Nat.zero_le _, hL17⟩ ?_ ?_
    · rintro i23 H25 hi26 ⟨F31, st32, acc28, wa29, S33, O35, hl34, la30, hL17⟩
      have f_tree := f_tree.mono S33
      have h4 := S33 _ _ h4
      have r7 := r7.mono S33
      have r8 := r8.mono S33
      have h12 := S33 _ _ h12
      have hl13 := hl13.mono S33
      rw [rangeL_get0 hi26] at hL17
      have hk := hLs18 _ _ _ _ hL17
      obtain ⟨y14, he_⟩ : ∃ z_, z_ = 0 + (i23 : Int) := ⟨_, rfl⟩
      try rw [← he_] at hk
      rw [← he_]
      refine ⟨rfl, _, rfl, _, rfl, _, _, R.int, R.int, _, rfl, ?_⟩
      refine iteD (fun q36 => ?_) (fun q36 => ?_)
      · have hk := wp_if hk q36
        refine ⟨_, rfl, (by show 1 ≤ sizeLine; decide), fun p37 hp38 => ?_⟩
        have hl44 : RL (a := Int) F31 ([V.int y14]) ([y14]) := RL.cons R.int RL.nil
        obtain ⟨F39, O40, S41, h42⟩ := O35.putE hp38 (.lst ([V.int y14]))
        have f_tree := f_tree.mono S41
        have h4 := S41 _ _ h4
        have r7 := r7.mono S41
        have r8 := r8.mono S41
        have h12 := S41 _ _ h12
        have hl13 := hl13.mono S41
        have S33 := S33.trans S41
        have hl34 := hl34.mono S41
        have hl44 := hl44.mono S41
        have h43 := R.lst (a := Int) h42 hl44
        refine ⟨_, (O40.at 0 rfl), (comp_lenR la30 hi26 (by rw [Int.sub_zero]) c20), ?_⟩
        exact ⟨F39, (), acc28 ++ [[y14]], wa29 ++ [V.ref p37], S33, O40.set 0 (.lst (wa29 ++ [V.ref p37])) rfl, RL.snoc hl34 h43, by rw [List.length_append]; exact Nat.succ_le_succ la30, hk⟩
      · have hk := wp_el hk q36
        exact ⟨F31, (), acc28, wa29, S33, O35, hl34, Nat.le_succ_of_le la30, hk⟩
    rintro H46 ⟨F47, st48, acc49, wa50, S51, O52, hl53, la54, hL55⟩
    rw [rangeL_end0] at hL55
    have hk := hLd19 _ _ hL55
    have f_tree := f_tree.mono S51
    have h4 := S51 _ _ h4
    have r7 := r7.mono S51
    have r8 := r8.mono S51
    have h12 := S51 _ _ h12
    have hl13 := hl13.mono S51
    obtain ⟨p57, w58, e59, h60, hl61⟩ := R.lst_ r8
    cases e59
    obtain ⟨L63, hL64, hLs65, hLd66⟩ := loopN_L hk
    refine ⟨_, rfl, _, _, _, _, rfl, rfl, (SqTF O52.s h4), rfl, _, rfl, ⟨_, (SqLF O52.s h60)⟩, ?_⟩
    refine for_list (K := K) (xs := w58) (fun i σ H_ => ∃ (F_ : Hp) (st : (List (List Int))) (w_0 : (List V)) (t_0 : Option V) (t_1 : Option V) (t_2 : Option V) (t_3 : Option V) (t_4 : Option V), σ = [some (V.ref p2), some (V.int x_without), some (V.ref p21), t_0, t_1, t_2, none, t_3, t_4, none] ∧ Same F47 F_ ∧ Ow _ F_ [(p21, .lst w_0)] H_ ∧ RL (a := (List Int)) F_ w_0 st ∧ L63 (List.drop i x_tree.2) st) ⟨F47, acc49, wa50, none, none, none, none, none, rfl, Same.refl _, O52, hl53, hL64⟩ (fun i_ σ_ H_ _ hp_ => ?_) ?_ ?_
    · obtain ⟨_, _, _, _, _, _, _, _, _, hS_, hO_, _⟩ := hp_
      exact SqLF hO_.s (hS_ _ _ h60)
    · rintro i67 x68 sg69 H70 hi71 ⟨F81, st73, w74, t76, t77, t78, t79, t80, rfl, S72, O82, hl75, hL64⟩
      have f_tree := f_tree.mono S72
      have h4 := S72 _ _ h4
      have r7 := r7.mono S72
      have r8 := r8.mono S72
      have h12 := S72 _ _ h12
      have hl13 := hl13.mono S72
      have h60 := S72 _ _ h60
      have hl61 := hl61.mono S72
      obtain ⟨y62, e83, r84⟩ := RL.got hl61 hi71
      rw [drop_at e83] at hL64
      have hk := hLs65 _ _ _ hL64
      obtain ⟨p85, v88, v89, v90, e86, h87, r91, r92, r93⟩ := R.t3_ r84
      cases e86
      obtain rfl := R.int_ r91
      obtain rfl := R.int_ r92
      obtain rfl := R.int_ r93
      refine ⟨_, _, rfl, (SqTF O82.s h87), rfl, _, _, rfl, _, _, rfl, _, _, rfl, rfl, _, rfl, _, rfl, _, rfl, (by show 2 ≤ sizeLine; decide), fun p94 hp95 => ?_⟩
      obtain ⟨F96, O97, S98, h99⟩ := O82.putE hp95 (.tup [V.int y62.a, V.int y62.b])
      have f_tree := f_tree.mono S98
      have h4 := S98 _ _ h4
      have r7 := r7.mono S98
      have r8 := r8.mono S98
      have h12 := S98 _ _ h12
      have hl13 := hl13.mono S98
      have h60 := S98 _ _ h60
      have hl61 := hl61.mono S98
      have hl75 := hl75.mono S98
      have S72 := S72.trans S98
      have r84 := r84.mono S98
      have h87 := S98 _ _ h87
      have h100 : R (a := (Int × Int)) F96 (.ref p94) (y62.a, y62.b) := R.t2 h99 R.int R.int
      obtain ⟨p101, v104, v105, e102, h103, r106, r107⟩ := R.t2_ h100
      cases e102
      obtain rfl := R.int_ r106
      obtain rfl := R.int_ r107
      refine ⟨_, _, _, _, R.int, rfl, (.inr (O97.s _ _ h103)), (RL.mono (RL.cons R.int (RL.cons R.int RL.nil)) O97.s), _, rfl, ?_⟩
      refine iteD (fun q108 => ?_) (fun q108 => ?_)
      · have hk := wp_if hk q108
        obtain ⟨c114, L110, hL111, hLs112, hLd113⟩ := compS_L hk
        refine ⟨_, rfl, _, rfl, ⟨_, (SqL.of (O97.at 0 rfl))⟩, fun p115 hp116 => ?_⟩
        have z138 := O97.was hp116
        refine lc_list (K := K) (xs := w74) (fun i H => ∃ (F_ : Hp) (st : Unit) (acc : List (List Int)) (wa : List V), Same F96 F_ ∧ Ow _ F_ [(p115, .lst wa), (p21, .lst w74)] H ∧ RL F_ wa acc ∧ wa.length ≤ i ∧ L110 (List.drop i st73) acc st) ⟨F96, (), [], [], Same.refl _, O97.new hp116, RL.nil, Nat.zero_le _, hL111⟩ (fun i_ H_ _ hp_ => ?_) ?_ ?_
        · obtain ⟨_, _, _, _, hS_, hO_, _⟩ := hp_
          exact SqL.of (hO_.at 1 rfl)
        · rintro i117 x118 H119 hi120 ⟨F125, st126, acc122, wa123, S127, O129, hl128, la124, hL111⟩
          have f_tree := f_tree.mono S127
          have h4 := S127 _ _ h4
          have r7 := r7.mono S127
          have r8 := r8.mono S127
          have h12 := S127 _ _ h12
          have hl13 := hl13.mono S127
          have h60 := S127 _ _ h60
          have hl61 := hl61.mono S127
          have hl75 := hl75.mono S127
          have S72 := S72.trans S127
          have r84 := r84.mono S127
          have h87 := S127 _ _ h87
          have h100 := h100.mono S127
          have h103 := S127 _ _ h103
          obtain ⟨y109, e130, r131⟩ := RL.got hl75 hi120
          rw [drop_at e130] at hL111
          have hk := hLs112 _ _ _ _ hL111
          obtain ⟨p132, w133, e134, h135, hl136⟩ := R.lst_ r131
          cases e134
          refine ⟨rfl, _, rfl, _, rfl, _, _, _, _, R.int, rfl, (.inl (O129.s _ _ h135)), (RL.mono (hl136) O129.s), _, rfl, ?_⟩
          refine iteD (fun q137 => ?_) (fun q137 => ?_)
          · have hk := wp_if hk q137
            refine ⟨_, rfl, _, (O129.at 0 rfl), (comp_len la124 hi120 hl75.len c114), ?_⟩
            exact ⟨F125, (), acc122 ++ [y109], wa123 ++ [V.ref p132], S127, O129.set 0 (.lst (wa123 ++ [V.ref p132])) rfl, RL.snoc hl128 r131, by rw [List.length_append]; exact Nat.succ_le_succ la124, hk⟩
          · have hk := wp_el hk q137
            exact ⟨F125, (), acc122, wa123, S127, O129, hl128, Nat.le_succ_of_le la124, hk⟩
        rintro H139 ⟨F140, st141, acc142, wa143, S144, O145, hl146, la147, hL148⟩
        rw [drop_end hl75.len] at hL148
        have hk := hLd113 _ _ hL148
        have f_tree := f_tree.mono S144
        have h4 := S144 _ _ h4
        have r7 := r7.mono S144
        have r8 := r8.mono S144
        have h12 := S144 _ _ h12
        have hl13 := hl13.mono S144
        have h60 := S144 _ _ h60
        have hl61 := hl61.mono S144
        have hl75 := hl75.mono S144
        have S72 := S72.trans S144
        have r84 := r84.mono S144
        have h87 := S144 _ _ h87
        have h100 := h100.mono S144
        have h103 := S144 _ _ h103
        obtain ⟨F150, O151, S152, h153⟩ := O145.frzE 0 rfl z138
        have f_tree := f_tree.mono S152
        have h4 := S152 _ _ h4
        have r7 := r7.mono S152
        have r8 := r8.mono S152
        have h12 := S152 _ _ h12
        have hl13 := hl13.mono S152
        have h60 := S152 _ _ h60
        have hl61 := hl61.mono S152
        have hl75 := hl75.mono S152
        have S72 := S72.trans S152
        have r84 := r84.mono S152
        have h87 := S152 _ _ h87
        have h100 := h100.mono S152
        have h103 := S152 _ _ h103
        have hl146 := hl146.mono S152
        have h154 := R.lst (a := (List Int)) h153 hl146
        obtain ⟨p155, w156, e157, h158, hl159⟩ := R.lst_ h154
        cases e157
        obtain ⟨y160, e161, hk⟩ := wp_opt hk
        obtain ⟨w162, e163, r164⟩ := hl159.atI e161
        obtain ⟨c170, L166, hL167, hLs168, hLd169⟩ := compS_L hk
        refine ⟨_, _, _, _, rfl, rfl, (SqLF O151.s h158), e163, _, rfl, _, rfl, ⟨_, (SqL.of (O151.at 0 rfl))⟩, fun p171 hp172 => ?_⟩
        have z194 := O151.was hp172
        refine lc_list (K := K) (xs := w74) (fun i H => ∃ (F_ : Hp) (st : Unit) (acc : List (List Int)) (wa : List V), Same F150 F_ ∧ Ow _ F_ [(p171, .lst wa), (p21, .lst w74)] H ∧ RL F_ wa acc ∧ wa.length ≤ i ∧ L166 (List.drop i st73) acc st) ⟨F150, (), [], [], Same.refl _, O151.new hp172, RL.nil, Nat.zero_le _, hL167⟩ (fun i_ H_ _ hp_ => ?_) ?_ ?_
        · obtain ⟨_, _, _, _, hS_, hO_, _⟩ := hp_
          exact SqL.of (hO_.at 1 rfl)
        · rintro i173 x174 H175 hi176 ⟨F181, st182, acc178, wa179, S183, O185, hl184, la180, hL167⟩
          have f_tree := f_tree.mono S183
          have h4 := S183 _ _ h4
          have r7 := r7.mono S183
          have r8 := r8.mono S183
          have h12 := S183 _ _ h12
          have hl13 := hl13.mono S183
          have h60 := S183 _ _ h60
          have hl61 := hl61.mono S183
          have hl75 := hl75.mono S183
          have S72 := S72.trans S183
          have r84 := r84.mono S183
          have h87 := S183 _ _ h87
          have h100 := h100.mono S183
          have h103 := S183 _ _ h103
          have h154 := h154.mono S183
          have h158 := S183 _ _ h158
          have hl159 := hl159.mono S183
          have r164 := r164.mono S183
          obtain ⟨y165, e186, r187⟩ := RL.got hl75 hi176
          rw [drop_at e186] at hL167
          have hk := hLs168 _ _ _ _ hL167
          obtain ⟨p188, w189, e190, h191, hl192⟩ := R.lst_ r187
          cases e190
          refine ⟨rfl, _, rfl, _, rfl, _, _, _, _, R.int, rfl, (.inl (O185.s _ _ h191)), (RL.mono (hl192) O185.s), _, rfl, ?_⟩
          refine iteD (fun q193 => ?_) (fun q193 => ?_)
          · have hk := wp_if hk q193
            refine ⟨_, rfl, _, (O185.at 0 rfl), (comp_len la180 hi176 hl75.len c170), ?_⟩
            exact ⟨F181, (), acc178 ++ [y165], wa179 ++ [V.ref p188], S183, O185.set 0 (.lst (wa179 ++ [V.ref p188])) rfl, RL.snoc hl184 r187, by rw [List.length_append]; exact Nat.succ_le_succ la180, hk⟩
          · have hk := wp_el hk q193
            exact ⟨F181, (), acc178, wa179, S183, O185, hl184, Nat.le_succ_of_le la180, hk⟩
        rintro H195 ⟨F196, st197, acc198, wa199, S200, O201, hl202, la203, hL204⟩
        rw [drop_end hl75.len] at hL204
        have hk := hLd169 _ _ hL204
        have f_tree := f_tree.mono S200
        have h4 := S200 _ _ h4
        have r7 := r7.mono S200
        have r8 := r8.mono S200
        have h12 := S200 _ _ h12
        have hl13 := hl13.mono S200
        have h60 := S200 _ _ h60
        have hl61 := hl61.mono S200
        have hl75 := hl75.mono S200
        have S72 := S72.trans S200
        have r84 := r84.mono S200
        have h87 := S200 _ _ h87
        have h100 := h100.mono S200
        have h103 := S200 _ _ h103
        have h154 := h154.mono S200
        have h158 := S200 _ _ h158
        have hl159 := hl159.mono S200
        have r164 := r164.mono S200
        obtain ⟨F206, O207, S208, h209⟩ := O201.frzE 0 rfl z194
        have f_tree := f_tree.mono S208
        have h4 := S208 _ _ h4
        have r7 := r7.mono S208
        have r8 := r8.mono S208
        have h12 := S208 _ _ h12
        have hl13 := hl13.mono S208
        have h60 := S208 _ _ h60
        have hl61 := hl61.mono S208
        have hl75 := hl75.mono S208
        have S72 := S72.trans S208
        have r84 := r84.mono S208
        have h87 := S208 _ _ h87
        have h100 := h100.mono S208
        have h103 := S208 _ _ h103
        have h154 := h154.mono S208
        have h158 := S208 _ _ h158
        have hl159 := hl159.mono S208
        have r164 := r164.mono S208
        have hl202 := hl202.mono S208
        have h210 := R.lst (a := (List Int)) h209 hl202
        obtain ⟨p211, w212, e213, h214, hl215⟩ := R.lst_ h210
        cases e213
        obtain ⟨y216, e217, hk⟩ := wp_opt hk
        obtain ⟨w218, e219, r220⟩ := hl215.atI e217
        obtain ⟨c221, hk⟩ := wp_chk hk
        refine ⟨_, _, _, _, rfl, rfl, (SqLF O207.s h214), e219, _, rfl, (.inl ⟨rfl, _, SqL.of (O207.at 0 rfl)⟩), _, rfl, _, _, _, _, _, rfl, rfl, (O207.at 0 rfl), (RL.mono (hl75) O207.s), (R.mono r164 O207.s), c221, ?_⟩
        have O222 := O207.set 0 (.lst (w74.take (ixL st73 y160) ++ w74.drop (ixL st73 y160 + 1))) rfl
        have hl223 : RL (a := (List Int)) F206 (w74.take (ixL st73 y160) ++ w74.drop (ixL st73 y160 + 1)) (remL st73 y160) := RL.rem hl75 y160
        obtain ⟨c224, hk⟩ := wp_chk hk
        refine ⟨_, rfl, (.inl ⟨rfl, _, SqL.of (O222.at 0 rfl)⟩), _, rfl, _, _, _, _, _, rfl, rfl, (O222.at 0 rfl), (RL.mono (hl223) O222.s), (R.mono r220 O222.s), c224, ?_⟩
        have O225 := O222.set 0 (.lst ((w74.take (ixL st73 y160) ++ w74.drop (ixL st73 y160 + 1)).take (ixL (remL st73 y160) y216) ++ (w74.take (ixL st73 y160) ++ w74.drop (ixL st73 y160 + 1)).drop (ixL (remL st73 y160) y216 + 1))) rfl
        have hl226 : RL (a := (List Int)) F206 ((w74.take (ixL st73 y160) ++ w74.drop (ixL st73 y160 + 1)).take (ixL (remL st73 y160) y216) ++ (w74.take (ixL st73 y160) ++ w74.drop (ixL st73 y160 + 1)).drop (ixL (remL st73 y160) y216 + 1)) (remL (remL st73 y160) y216) := RL.rem hl223 y216
        obtain ⟨p227, w228, e229, h230, hl231⟩ := R.lst_ r164
        cases e229
        obtain ⟨p232, w233, e234, h235, hl236⟩ := R.lst_ r220
        cases e234
        obtain ⟨c237, hk⟩ := wp_chk hk
        refine ⟨_, rfl, (.inl ⟨rfl, _, SqL.of (O225.at 0 rfl)⟩), _, rfl, _, rfl, _, _, _, _, rfl, rfl, (O225.s _ _ h230), (O225.s _ _ h235), (by rw [hl231.len, hl236.len]; exact le_line c237), fun p238 hp239 => ?_⟩
        have hl245 : RL (a := Int) F206 (w228 ++ w233) (y160 ++ y216) := RL.app hl231 hl236
        obtain ⟨F240, O241, S242, h243⟩ := O225.putE hp239 (.lst (w228 ++ w233))
        have f_tree := f_tree.mono S242
        have h4 := S242 _ _ h4
        have r7 := r7.mono S242
        have r8 := r8.mono S242
        have h12 := S242 _ _ h12
        have hl13 := hl13.mono S242
        have h60 := S242 _ _ h60
        have hl61 := hl61.mono S242
        have S72 := S72.trans S242
        have r84 := r84.mono S242
        have h87 := S242 _ _ h87
        have h100 := h100.mono S242
        have h103 := S242 _ _ h103
        have h154 := h154.mono S242
        have h158 := S242 _ _ h158
        have hl159 := hl159.mono S242
        have r164 := r164.mono S242
        have h210 := h210.mono S242
        have h214 := S242 _ _ h214
        have hl215 := hl215.mono S242
        have r220 := r220.mono S242
        have hl226 := hl226.mono S242
        have h230 := S242 _ _ h230
        have hl231 := hl231.mono S242
        have h235 := S242 _ _ h235
        have hl236 := hl236.mono S242
        have hl245 := hl245.mono S242
        have h244 := R.lst (a := Int) h243 hl245
        obtain ⟨c246, hk⟩ := wp_appL hk
        refine ⟨_, _, _, rfl, rfl, (O241.at 0 rfl), (by rw [hl226.len]; exact c246), ?_⟩
        have O248 := O241.set 0 (.lst (((w74.take (ixL st73 y160) ++ w74.drop (ixL st73 y160 + 1)).take (ixL (remL st73 y160) y216) ++ (w74.take (ixL st73 y160) ++ w74.drop (ixL st73 y160 + 1)).drop (ixL (remL st73 y160) y216 + 1)) ++ [V.ref p238])) rfl
        have hl249 : RL (a := (List Int)) F240 (((w74.take (ixL st73 y160) ++ w74.drop (ixL st73 y160 + 1)).take (ixL (remL st73 y160) y216) ++ (w74.take (ixL st73 y160) ++ w74.drop (ixL st73 y160 + 1)).drop (ixL (remL st73 y160) y216 + 1)) ++ [V.ref p238]) ((remL (remL st73 y160) y216) ++ [(y160 ++ y216)]) := RL.snoc hl226 h244
        exact ⟨F240, ((remL (remL st73 y160) y216) ++ [(y160 ++ y216)]), (((w74.take (ixL st73 y160) ++ w74.drop (ixL st73 y160 + 1)).take (ixL (remL st73 y160) y216) ++ (w74.take (ixL st73 y160) ++ w74.drop (ixL st73 y160 + 1)).drop (ixL (remL st73 y160) y216 + 1)) ++ [V.ref p238]), some (V.int y62.a), some (V.int y62.b), some (V.int y62.c), some (V.ref p227), some (V.ref p232), rfl, S72, O248, hl249, hk⟩
      · have hk := wp_el hk q108
        exact ⟨F96, st73, w74, some (V.int y62.a), some (V.int y62.b), some (V.int y62.c), t79, t80, rfl, S72, O97, hl75, hk⟩
    rintro sg250 H251 ⟨F262, st253, w255, t257, t258, t259, t260, t261, rfl, S252, O263, hl256, hL254⟩
    rw [drop_end hl61.len] at hL254
    have hk := hLd66 _ hL254
    have f_tree := f_tree.mono S252
    have h4 := S252 _ _ h4
    have r7 := r7.mono S252
    have r8 := r8.mono S252
    have h12 := S252 _ _ h12
    have hl13 := hl13.mono S252
    have h60 := S252 _ _ h60
    have hl61 := hl61.mono S252
    refine ⟨(by show 1 ≤ sizeLine; decide), fun p264 hp265 => ?_⟩
    have hl271 : RL (a := Int) F262 ([V.int (0 : Int)]) ([(0 : Int)]) := RL.cons R.int RL.nil
    obtain ⟨F266, O267, S268, h269⟩ := O263.putE hp265 (.lst ([V.int (0 : Int)]))
    have f_tree := f_tree.mono S268
    have h4 := S268 _ _ h4
    have r7 := r7.mono S268
    have r8 := r8.mono S268
    have h12 := S268 _ _ h12
    have hl13 := hl13.mono S268
    have h60 := S268 _ _ h60
    have hl61 := hl61.mono S268
    have hl256 := hl256.mono S268
    have hl271 := hl271.mono S268
    have h270 := R.lst (a := Int) h269 hl271
    obtain ⟨c277, L273, hL274, hLs275, hLd276⟩ := compS_L hk
    refine ⟨_, rfl, _, rfl, ⟨_, (SqL.of (O267.at 0 rfl))⟩, fun p278 hp279 => ?_⟩
    have z300 := O267.was hp279
    refine lc_list (K := K) (xs := w255) (fun i H => ∃ (F_ : Hp) (st : Unit) (acc : List Int) (wa : List V), Same F266 F_ ∧ Ow _ F_ [(p278, .lst wa), (p21, .lst w255)] H ∧ RL F_ wa acc ∧ wa.length ≤ i ∧ L273 (List.drop i st253) acc st) ⟨F266, (), [], [], Same.refl _, O267.new hp279, RL.nil, Nat.zero_le _, hL274⟩ (fun i_ H_ _ hp_ => ?_) ?_ ?_
    · obtain ⟨_, _, _, _, hS_, hO_, _⟩ := hp_
      exact SqL.of (hO_.at 1 rfl)
    · rintro i280 x281 H282 hi283 ⟨F288, st289, acc285, wa286, S290, O292, hl291, la287, hL274⟩
      have f_tree := f_tree.mono S290
      have h4 := S290 _ _ h4
      have r7 := r7.mono S290
      have r8 := r8.mono S290
      have h12 := S290 _ _ h12
      have hl13 := hl13.mono S290
      have h60 := S290 _ _ h60
      have hl61 := hl61.mono S290
      have hl256 := hl256.mono S290
      have h270 := h270.mono S290
      obtain ⟨y272, e293, r294⟩ := RL.got hl256 hi283
      rw [drop_at e293] at hL274
      have hk := hLs275 _ _ _ _ hL274
      refine ⟨rfl, ?_⟩
      obtain ⟨p295, w296, e297, h298, hl299⟩ := R.lst_ r294
      cases e297
      refine ⟨_, rfl, _, _, _, rfl, (.inl (O292.s _ _ h298)), hl299.len, _, (O292.at 0 rfl), (comp_len la287 hi283 hl256.len c277), ?_⟩
      exact ⟨F288, (), acc285 ++ [(y272.length : Int)], wa286 ++ [V.int (y272.length : Int)], S290, O292.set 0 (.lst (wa286 ++ [V.int (y272.length : Int)])) rfl, RL.snoc hl291 R.int, by rw [List.length_append]; exact Nat.succ_le_succ la287, hk⟩
    rintro H301 ⟨F302, st303, acc304, wa305, S306, O307, hl308, la309, hL310⟩
    rw [drop_end hl256.len] at hL310
    have hk := hLd276 _ _ hL310
    have f_tree := f_tree.mono S306
    have h4 := S306 _ _ h4
    have r7 := r7.mono S306
    have r8 := r8.mono S306
    have h12 := S306 _ _ h12
    have hl13 := hl13.mono S306
    have h60 := S306 _ _ h60
    have hl61 := hl61.mono S306
    have hl256 := hl256.mono S306
    have h270 := h270.mono S306
    obtain ⟨F312, O313, S314, h315⟩ := O307.frzE 0 rfl z300
    have f_tree := f_tree.mono S314
    have h4 := S314 _ _ h4
    have r7 := r7.mono S314
    have r8 := r8.mono S314
    have h12 := S314 _ _ h12
    have hl13 := hl13.mono S314
    have h60 := S314 _ _ h60
    have hl61 := hl61.mono S314
    have hl256 := hl256.mono S314
    have h270 := h270.mono S314
    have hl308 := hl308.mono S314
    have h316 := R.lst (a := Int) h315 hl308
    obtain ⟨p317, w318, e319, h320, hl321⟩ := R.lst_ h270
    cases e319
    obtain ⟨p322, w323, e324, h325, hl326⟩ := R.lst_ h316
    cases e324
    obtain ⟨c327, hk⟩ := wp_chk hk
    refine ⟨_, _, _, _, rfl, rfl, (O313.s _ _ h320), (O313.s _ _ h325), (by rw [hl321.len, hl326.len]; exact le_line c327), fun p328 hp329 => ?_⟩
    have hl335 : RL (a := Int) F312 (w318 ++ w323) (([(0 : Int)]) ++ acc304) := RL.app hl321 hl326
    obtain ⟨F330, O331, S332, h333⟩ := O313.putE hp329 (.lst (w318 ++ w323))
    have f_tree := f_tree.mono S332
    have h4 := S332 _ _ h4
    have r7 := r7.mono S332
    have r8 := r8.mono S332
    have h12 := S332 _ _ h12
    have hl13 := hl13.mono S332
    have h60 := S332 _ _ h60
    have hl61 := hl61.mono S332
    have hl256 := hl256.mono S332
    have h270 := h270.mono S332
    have h316 := h316.mono S332
    have h320 := S332 _ _ h320
    have hl321 := hl321.mono S332
    have h325 := S332 _ _ h325
    have hl326 := hl326.mono S332
    have hl335 := hl335.mono S332
    have h334 := R.lst (a := Int) h333 hl335
    obtain ⟨p336, w337, e338, h339, hl340⟩ := R.lst_ h334
    cases e338
    obtain ⟨y341, e342, hk⟩ := wp_opt hk
    refine ⟨_, (([(0 : Int)]) ++ acc304), rfl, (by rw [← RL.ints hl340]; exact (SqLF O331.s h339)), (List.length_pos_of_mem (mxI_is e342).1), fun m343 h344 h345 => ?_⟩
    have e346 := mxI_uq e342 h344 h345
    subst e346
    exact hk _ _  O331.g 
abbrev s_law : Stmt := top 19
theorem sc_law : FnScope ["script", "tree", "way", "numbers", "due", "given", "found", "place", "k"] ["script"] (defScope s_law) := ⟨rfl, rfl, rfl, by decide +kernel, rfl, by decide +kernel, by decide +kernel⟩
def m_law (x_script : (List Int)) : M (Bool) :=
m_law_tree x_script (9 : Int) >>= fun r1 =>
m_law_cell_at x_script (2 : Int) >>= fun r9 =>
m_law_digits r9 (2 : Int) (720720 : Int) >>= fun r15 =>
opt (atI r15 (0 : Int)) >>= fun y39 =>
chk (0 < (4 : Int)) >>= fun _ =>
if (y39 % (4 : Int)) = (3 : Int) then (
chk (okR (1 : Int)) >>= fun _ =>
chk (okR (r1.1.length : Int)) >>= fun _ =>
compS (fun (y58 : Int) (st77 : Unit) =>
opt (atI r15 (1 : Int)) >>= fun y94 =>
chk (0 < (2 : Int)) >>= fun _ =>
opt (atI ([(y58 - (1 : Int)), (0 : Int)]) (y94 % (2 : Int))) >>= fun y105 =>
opt (atI r15 (1 : Int)) >>= fun y115 =>
chk (0 < (3 : Int)) >>= fun _ =>
.ok (some (T3.mk y105 y58 ((1 : Int) - (y115 % (3 : Int)))), ())) (rangeL (1 : Int) (r1.1.length : Int)) () >>= fun q139 =>
chk (okR (((r1.1, q139.1).1).length : Int)) >>= fun _ =>
compS (fun (y164 : Int) (st182 : Unit) =>
m_law_greatest (r1.1, q139.1) y164 >>= fun r186 =>
.ok (some r186, ())) (rangeL 0 (((r1.1, q139.1).1).length : Int)) () >>= fun q203 =>
chk (okR (q203.1.length : Int)) >>= fun _ =>
compS (fun (y214 : Int) (st232 : Unit) =>
opt (atI q203.1 y214) >>= fun y241 =>
opt (mnI q203.1) >>= fun y251 =>
if y241 = y251 then (
.ok (some y214, ()))
else (
.ok (none, ()))) (rangeL 0 (q203.1.length : Int)) () >>= fun q269 =>
m_law_copy (r1.1, q139.1) >>= fun r275 =>
m_balance r275 >>= fun r284 =>
m_law_alike_1 r284 q269.1 >>= fun r301 =>
if r301 = true then (
appL r284 (0 : Int) >>= fun _ =>
m_balance r275 >>= fun r312 =>
m_law_alike_1 r312 q269.1 >>= fun r331 =>
if r331 = true then (
.ok (decide (r275 = (r1.1, q139.1))))
else (
.ok false))
else (
.ok false))
else (
chk (okR (r1.1.length : Int)) >>= fun _ =>
compS (fun (y350 : Int) (st368 : Unit) =>
m_law_greatest r1 y350 >>= fun r372 =>
.ok (some r372, ())) (rangeL 0 (r1.1.length : Int)) () >>= fun q389 =>
chk (okR (q389.1.length : Int)) >>= fun _ =>
compS (fun (y400 : Int) (st418 : Unit) =>
opt (atI q389.1 y400) >>= fun y427 =>
opt (mnI q389.1) >>= fun y437 =>
if y427 = y437 then (
.ok (some y400, ()))
else (
.ok (none, ()))) (rangeL 0 (q389.1.length : Int)) () >>= fun q455 =>
m_law_copy r1 >>= fun r461 =>
m_balance r461 >>= fun r470 =>
m_law_alike_1 r470 q455.1 >>= fun r487 =>
if r487 = true then (
appL r470 (0 : Int) >>= fun _ =>
m_balance r461 >>= fun r498 =>
m_law_alike_1 r498 q455.1 >>= fun r517 =>
if r517 = true then (
.ok (decide (r461 = r1)))
else (
.ok false))
else (
.ok false))
def sp_law (K : PySem.W.Frag) : Sp := fun vs H Q E => ∃ (F : Hp) (a_script : Addr) (x_script : (List Int)), vs = [.ref a_script] ∧ Pre F [] H ∧ SqL K F a_script (x_script.map V.int) ∧
  wp (m_law x_script) (fun r => ∀ (F' H' : Hp), Gr [] F H F' H' → Q (V.bl r) H') (fun _ => False)
set_option maxHeartbeats 2000000 in
theorem ok_law (nb : Nb mg) (C_law_alike_1 : Ca P w K mg base "_law_alike" 2 ["found", "due"] (sp_law_alike_1 mg)) (C_law_cell_at : Ca P w K mg base "_law_cell_at" 1 ["script", "k"] (sp_law_cell_at K mg)) (C_law_copy : Ca P w K mg base "_law_copy" 1 ["tree"] (sp_law_copy mg)) (C_law_digits : Ca P w K mg base "_law_digits" 1 ["cell", "many", "top"] (sp_law_digits mg)) (C_law_greatest : Ca P w K mg base "_law_greatest" 1 ["tree", "without"] (sp_law_greatest mg)) (C_law_tree : Ca P w K mg base "_law_tree" 2 ["script", "most"] (sp_law_tree K mg)) (C_balance : Ca P w K mg base "balance" 4 ["tree"] (sp_balance mg)) {f : Addr} {fd : FuncData} (F_ : Fun K "law" "law" s_law f fd) : FnOk P w K mg base (L2.CX P w) 5 f fd ["script"] (sp_law K) := by
  obtain ⟨fa_law_alike_1, fd_law_alike_1, G_law_alike_1, M_law_alike_1, K_law_alike_1, B_law_alike_1⟩ := C_law_alike_1.ex
  obtain ⟨fa_law_cell_at, fd_law_cell_at, G_law_cell_at, M_law_cell_at, K_law_cell_at, B_law_cell_at⟩ := C_law_cell_at.ex
  obtain ⟨fa_law_copy, fd_law_copy, G_law_copy, M_law_copy, K_law_copy, B_law_copy⟩ := C_law_copy.ex
  obtain ⟨fa_law_digits, fd_law_digits, G_law_digits, M_law_digits, K_law_digits, B_law_digits⟩ := C_law_digits.ex
  obtain ⟨fa_law_greatest, fd_law_greatest, G_law_greatest, M_law_greatest, K_law_greatest, B_law_greatest⟩ := C_law_greatest.ex
  obtain ⟨fa_law_tree, fd_law_tree, G_law_tree, M_law_tree, K_law_tree, B_law_tree⟩ := C_law_tree.ex
  obtain ⟨fa_balance, fd_balance, G_balance, M_balance, K_balance, B_balance⟩ := C_balance.ex
  refine F_.okX sc_law (fun vs H Q E h => ?_) (fun cdv A outer s H vs Q E hr h => ?_)
  · obtain ⟨F, _, _, rfl, _⟩ := h
    rfl
  · obtain ⟨F, a_script, x_script, rfl, P0, f_script, hk⟩ := h
    have nd := sc_law.nd
    have hu64 := hr.units
    have hu128 := hu128_of hr
    have O := P0.start
    refine ⟨_, (pss_cons (ps_set (i := 1) nd rfl (Or.inr rfl) (pe_call G_law_tree (hr.mono (by decide)) rfl M_law_tree K_law_tree B_law_tree .nil (passes_call (takes_of rfl rfl rfl rfl) fun _ _ _ _ h => h) (pa_cons (pv 0) (pa_cons pe_int pa_nil))))
  (pss_cons (ps_set (i := 2) nd rfl (Or.inr rfl) (pe_call G_law_digits (hr.mono (by decide)) rfl M_law_digits K_law_digits B_law_digits .nil (passes_call (takes_of rfl rfl rfl rfl) fun _ _ _ _ h => h) (pa_cons (pe_call G_law_cell_at (hr.mono (by decide)) rfl M_law_cell_at K_law_cell_at B_law_cell_at .nil (passes_call (takes_of rfl rfl rfl rfl) fun _ _ _ _ h => h) (pa_cons (pv 0) (pa_cons pe_int pa_nil))) (pa_cons pe_int (pa_cons pe_int pa_nil)))))
  (pss_cons (ps_if (pt_cmpR (op_eqT Int hu64) (pe_op op_mod (pe_ix (ixListK (K := K) rfl) (pv 2) pe_int (fun _ _ => rfl)) pe_int) pe_int (nomark _)) (pss_one (ps_set (i := 1) nd rfl (Or.inr rfl) (pe_tup (pa_cons (pe_ix (ixTupK (K := K) rfl) (pv 1) pe_int (fun _ _ => rfl)) (pa_cons (pe_lc (own := [("k", 8)]) (g := gName 8) (tt := _) rfl nd (pi_range2 rfl nb.b_range (pa_cons pe_int (pa_cons (pe_callB call_lenT (by rfl) nb.b_len PySem.boot_len (pa_cons (pe_ix (ixTupK (K := K) rfl) (pv 1) pe_int (fun _ _ => rfl)) pa_nil)) pa_nil))) (blkOk_by (own := [("k", 8)]) (N := ["script", "tree", "way", "numbers", "due", "given", "found", "place", "k"]) (sc := defScope s_law) (by decide +kernel)) (fun _ _ _ _ _ => (pg_name (i := 8) nd rfl (Or.inl rfl))) (fun _ _ _ _ _ => pts_nil) (fun _ _ _ _ _ => (pe_tup (pa_cons (pe_ix (ixListK (K := K) rfl) (pe_lst (pa_cons (pe_op op_sub (pv 8) pe_int) (pa_cons pe_int pa_nil))) (pe_op op_mod (pe_ix (ixListK (K := K) rfl) (pv 2) pe_int (fun _ _ => rfl)) pe_int) (fun _ _ => rfl)) (pa_cons (pv 8) (pa_cons (pe_op op_sub pe_int (pe_op op_mod (pe_ix (ixListK (K := K) rfl) (pv 2) pe_int (fun _ _ => rfl)) pe_int)) pa_nil)))))) pa_nil))))) pss_nil)
  (pss_cons (ps_set (i := 3) nd rfl (Or.inr rfl) (pe_lc (own := [("place", 7)]) (g := gName 7) (tt := _) rfl nd (pi_range1 rfl nb.b_range (pa_cons (pe_callB call_lenT (by rfl) nb.b_len PySem.boot_len (pa_cons (pe_ix (ixTupK (K := K) rfl) (pv 1) pe_int (fun _ _ => rfl)) pa_nil)) pa_nil)) (blkOk_by (own := [("place", 7)]) (N := ["script", "tree", "way", "numbers", "due", "given", "found", "place", "k"]) (sc := defScope s_law) (by decide +kernel)) (fun _ _ _ _ _ => (pg_name (i := 7) nd rfl (Or.inl rfl))) (fun _ _ _ _ _ => pts_nil) (fun _ _ _ _ _ => (pe_call G_law_greatest (hr.mono (by decide)) rfl M_law_greatest K_law_greatest B_law_greatest .nil passL (pa_cons (pv 1) (pa_cons (pv 7) pa_nil))))))
  (pss_cons (ps_setLc (i := 4) (own := [("place", 7)]) (g := gName 7) (tt := _) rfl nd rfl rfl (sw_true rfl rfl rfl (by decide +kernel)) (pi_range1 rfl nb.b_range (pa_cons (pe_callB call_lenT (by rfl) nb.b_len PySem.boot_len (pa_cons (pv 3) pa_nil)) pa_nil)) (blkOk_by (own := [("place", 7)]) (N := ["script", "tree", "way", "numbers", "due", "given", "found", "place", "k"]) (sc := defScope s_law) (by decide +kernel)) (fun _ _ _ _ _ => (pg_name (i := 7) nd rfl (Or.inl rfl))) (fun _ _ _ _ _ => (pts_one (pt_cmpR (op_eqT Int hu64) (pe_ix (ixListK (K := K) rfl) (pv 3) (pv 7) (fun _ _ => rfl)) (pe_callB (cr_minK (K := K) rfl rfl) (by rfl) nb.b_min (by decide +kernel) (pa_cons (pv 3) pa_nil)) (nomark _)))) (fun _ _ _ _ _ => (pv 7)))
  (pss_cons (ps_set (i := 5) nd rfl (Or.inl rfl) (pe_call G_law_copy (hr.mono (by decide)) rfl M_law_copy K_law_copy B_law_copy .nil (passes_call (takes_of rfl rfl rfl rfl) fun _ _ _ _ h => h) (pa_cons (pv 1) pa_nil)))
  (pss_cons (ps_set (i := 6) nd rfl (Or.inl rfl) (pe_call G_balance (hr.mono (by decide)) rfl M_balance K_balance B_balance .nil (passes_call (takes_of rfl rfl rfl rfl) fun _ _ _ _ h => h) (pa_cons (pv 5) pa_nil)))
  (pss_cons (ps_if (pt_not (pt_val (pe_call G_law_alike_1 (hr.mono (by decide)) rfl M_law_alike_1 K_law_alike_1 B_law_alike_1 .nil (passes_call (takes_of rfl rfl rfl rfl) fun _ _ _ _ h => h) (pa_cons (pv 6) (pa_cons (pv 4) pa_nil))))) (pss_one (ps_ret pe_bl)) pss_nil)
  (pss_cons (ps_expr (bmK (K := K) rfl (pe_bm PySem.F.plainAttrs_list PySem.F.slot_list_append PySem.F.type_list_append mt_append (pv 6) (pa_cons pe_int pa_nil))))
  (pss_one (ps_ret (pe_and (pe_call G_law_alike_1 (hr.mono (by decide)) rfl M_law_alike_1 K_law_alike_1 B_law_alike_1 .nil (passes_call (takes_of rfl rfl rfl rfl) fun _ _ _ _ h => h) (pa_cons (pe_call G_balance (hr.mono (by decide)) rfl M_balance K_balance B_balance .nil (passes_call (takes_of rfl rfl rfl rfl) fun _ _ _ _ h => h) (pa_cons (pv 5) pa_nil)) (pa_cons (pv 4) pa_nil))) (pe_one (pe_cmpR (op_eqT ((List Int) × (List (T3 Int Int Int))) hu64) (pv 5) (pv 1) (nomark _))))))))))))))), ?_⟩
    refine ⟨_, rfl, _, _, _, _, rfl, O.pre0, f_script, wp_call hk (fun r1 er2 hk F3 H4 g5 v6 r7 => ?_) (fun n hn C H1 hC kp => hn.elim)⟩
    have O8 := O.call0 g5
    have S_ := g5.f
    have f_script := S_.seq f_script
    refine ⟨_, rfl, _, _, _, _, rfl, O8.pre0, f_script, wp_call hk (fun r9 er10 hk F11 H12 g13 => ?_) (fun n hn C H1 hC kp => hn.elim)⟩
    have O14 := O8.call0 g13
    have S_ := g13.f
    have f_script := S_.seq f_script
    have r7 := r7.mono S_
    refine ⟨_, _, _, _, rfl, O14.pre0, wp_call hk (fun r15 er16 hk F17 H18 g19 p20 w21 hn22 hf23 h24 hl25 => ?_) (fun n hn C H1 hC kp => hn.elim)⟩
    have O26 := O14.call0 g19
    have S_ := g19.f
    have f_script := S_.seq f_script
    have r7 := r7.mono S_
    have O27 := O14.got O26 rfl hn22 hf23 h24
    have z28 := O14.was hn22
    obtain ⟨F29, O30, S31, h32⟩ := O27.frzE 0 rfl z28
    have f_script := S31.seq f_script
    have r7 := r7.mono S31
    have hl25 := hl25.mono S31
    have h33 := R.lst (a := Int) h32 hl25
    obtain ⟨p34, w35, e36, h37, hl38⟩ := R.lst_ h33
    cases e36
    obtain ⟨y39, e40, hk⟩ := wp_opt hk
    obtain ⟨w41, e42, r43⟩ := hl38.atI e40
    obtain rfl := R.int_ r43
    obtain ⟨c44, hk⟩ := wp_chk hk
    refine ⟨_, rfl, _, _, _, _, rfl, rfl, (SqLF O30.s h37), e42, _, _, rfl, rfl, c44, _, _, R.int, R.int, _, rfl, ?_⟩
    refine iteD (fun q45 => ?_) (fun q45 => ?_)
    · have hk := wp_if hk q45
      obtain ⟨p46, v49, v50, e47, h48, r51, r52⟩ := R.t2_ r7
      cases e47
      obtain ⟨p53, w54, e55, h56, hl57⟩ := R.lst_ r51
      cases e55
      obtain ⟨c59, hk⟩ := wp_chk hk
      obtain ⟨c60, hk⟩ := wp_chk hk
      obtain ⟨c65, L61, hL62, hLs63, hLd64⟩ := compS_L hk
      refine ⟨_, rfl, _, _, _, _, rfl, rfl, (SqTF O30.s h48), rfl, _, rfl, _, _, _, _, rfl, rfl, (SqTF O30.s h48), rfl, _, _, _, rfl, (.inl (O30.s _ _ h56)), hl57.len, _, _, rfl, ⟨c59.lo, c59.hi, c60.lo, c60.hi⟩, fun p66 hp67 => ?_⟩
      have z128 := O30.was hp67
      refine lc_range (lo := (1 : Int)) (n := ((r1.1.length : Int) - (1 : Int)).toNat) (fun i H => ∃ (F_ : Hp) (st : Unit) (acc : List (T3 Int Int Int)) (wa : List V), Same F29 F_ ∧ Ow _ F_ [(p66, .lst wa)] H ∧ RL F_ wa acc ∧ wa.length ≤ i ∧ L61 (List.drop i (rangeL (1 : Int) (r1.1.length : Int))) acc st) ⟨F29, (), [], [], Same.refl _, O30.new hp67, RL.nil, Nat.zero_le _, hL62⟩ ?_ ?_
      · rintro i68 H70 hi71 ⟨F76, st77, acc73, wa74, S78, O80, hl79, la75, hL62⟩
        have f_script := S78.seq f_script
        have r7 := r7.mono S78
        have h33 := h33.mono S78
        have h37 := S78 _ _ h37
        have hl38 := hl38.mono S78
        have h48 := S78 _ _ h48
        have r51 := r51.mono S78
        have r52 := r52.mono S78
        have h56 := S78 _ _ h56
        have hl57 := hl57.mono S78
        rw [rangeL_get hi71] at hL62
        have hk := hLs63 _ _ _ _ hL62
        obtain ⟨y58, he_⟩ : ∃ z_, z_ = (1 : Int) + (i68 : Int) := ⟨_, rfl⟩
        try rw [← he_] at hk
        rw [← he_]
        refine ⟨rfl, ?_⟩
        refine ⟨_, rfl, _, _, rfl, rfl, (by show 2 ≤ sizeLine; decide), fun p81 hp82 => ?_⟩
        have hl88 : RL (a := Int) F76 ([V.int (y58 - (1 : Int)), V.int (0 : Int)]) ([(y58 - (1 : Int)), (0 : Int)]) := RL.cons R.int (RL.cons R.int RL.nil)
        obtain ⟨F83, O84, S85, h86⟩ := O80.putE hp82 (.lst ([V.int (y58 - (1 : Int)), V.int (0 : Int)]))
        have f_script := S85.seq f_script
        have r7 := r7.mono S85
        have h33 := h33.mono S85
        have h37 := S85 _ _ h37
        have hl38 := hl38.mono S85
        have h48 := S85 _ _ h48
        have r51 := r51.mono S85
        have r52 := r52.mono S85
        have h56 := S85 _ _ h56
        have hl57 := hl57.mono S85
        have S78 := S78.trans S85
        have hl79 := hl79.mono S85
        have hl88 := hl88.mono S85
        have h87 := R.lst (a := Int) h86 hl88
        obtain ⟨p89, w90, e91, h92, hl93⟩ := R.lst_ h33
        cases e91
        obtain ⟨y94, e95, hk⟩ := wp_opt hk
        obtain ⟨w96, e97, r98⟩ := hl93.atI e95
        obtain rfl := R.int_ r98
        obtain ⟨c99, hk⟩ := wp_chk hk
        obtain ⟨p100, w101, e102, h103, hl104⟩ := R.lst_ h87
        cases e102
        obtain ⟨y105, e106, hk⟩ := wp_opt hk
        obtain ⟨w107, e108, r109⟩ := hl104.atI e106
        obtain rfl := R.int_ r109
        obtain ⟨p110, w111, e112, h113, hl114⟩ := R.lst_ h33
        cases e112
        obtain ⟨y115, e116, hk⟩ := wp_opt hk
        obtain ⟨w117, e118, r119⟩ := hl114.atI e116
        obtain rfl := R.int_ r119
        obtain ⟨c120, hk⟩ := wp_chk hk
        refine ⟨_, rfl, _, _, _, _, rfl, rfl, (SqLF O84.s h92), e97, _, _, rfl, rfl, c99, _, _, _, _, rfl, rfl, (SqLF O84.s h103), e108, _, rfl, _, rfl, _, _, _, _, rfl, rfl, (SqLF O84.s h113), e118, _, _, rfl, rfl, c120, _, _, rfl, rfl, (by show 3 ≤ sizeLine; decide), fun p121 hp122 => ?_⟩
        obtain ⟨F123, O124, S125, h126⟩ := O84.putE hp122 (.tup [V.int y105, V.int y58, V.int ((1 : Int) - (y115 % (3 : Int)))])
        have f_script := S125.seq f_script
        have r7 := r7.mono S125
        have h33 := h33.mono S125
        have h37 := S125 _ _ h37
        have hl38 := hl38.mono S125
        have h48 := S125 _ _ h48
        have r51 := r51.mono S125
        have r52 := r52.mono S125
        have h56 := S125 _ _ h56
        have hl57 := hl57.mono S125
        have S78 := S78.trans S125
        have hl79 := hl79.mono S125
        have h87 := h87.mono S125
        have h92 := S125 _ _ h92
        have hl93 := hl93.mono S125
        have h103 := S125 _ _ h103
        have hl104 := hl104.mono S125
        have h113 := S125 _ _ h113
        have hl114 := hl114.mono S125
        have h127 : R (a := (T3 Int Int Int)) F123 (.ref p121) (T3.mk y105 y58 ((1 : Int) - (y115 % (3 : Int)))) := R.t3 h126 R.int R.int R.int
        refine ⟨_, (O124.at 0 rfl), (comp_lenR la75 hi71 rfl c65), ?_⟩
        exact ⟨F123, (), acc73 ++ [(T3.mk y105 y58 ((1 : Int) - (y115 % (3 : Int))))], wa74 ++ [V.ref p121], S78, O124.set 0 (.lst (wa74 ++ [V.ref p121])) rfl, RL.snoc hl79 h127, by rw [List.length_append]; exact Nat.succ_le_succ la75, hk⟩
      rintro H129 ⟨F130, st131, acc132, wa133, S134, O135, hl136, la137, hL138⟩
      rw [rangeL_end] at hL138
      have hk := hLd64 _ _ hL138
      have f_script := S134.seq f_script
      have r7 := r7.mono S134
      have h33 := h33.mono S134
      have h37 := S134 _ _ h37
      have hl38 := hl38.mono S134
      have h48 := S134 _ _ h48
      have r51 := r51.mono S134
      have r52 := r52.mono S134
      have h56 := S134 _ _ h56
      have hl57 := hl57.mono S134
      obtain ⟨F140, O141, S142, h143⟩ := O135.frzE 0 rfl z128
      have f_script := S142.seq f_script
      have r7 := r7.mono S142
      have h33 := h33.mono S142
      have h37 := S142 _ _ h37
      have hl38 := hl38.mono S142
      have h48 := S142 _ _ h48
      have r51 := r51.mono S142
      have r52 := r52.mono S142
      have h56 := S142 _ _ h56
      have hl57 := hl57.mono S142
      have hl136 := hl136.mono S142
      have h144 := R.lst (a := (T3 Int Int Int)) h143 hl136
      refine ⟨(by show 2 ≤ sizeLine; decide), fun p145 hp146 => ?_⟩
      obtain ⟨F147, O148, S149, h150⟩ := O141.putE hp146 (.tup [V.ref p53, V.ref p66])
      have f_script := S149.seq f_script
      have r7 := r7.mono S149
      have h33 := h33.mono S149
      have h37 := S149 _ _ h37
      have hl38 := hl38.mono S149
      have h48 := S149 _ _ h48
      have r51 := r51.mono S149
      have r52 := r52.mono S149
      have h56 := S149 _ _ h56
      have hl57 := hl57.mono S149
      have h144 := h144.mono S149
      have h151 : R (a := ((List Int) × (List (T3 Int Int Int)))) F147 (.ref p145) (r1.1, acc132) := R.t2 h150 r51 h144
      obtain ⟨p152, v155, v156, e153, h154, r157, r158⟩ := R.t2_ h151
      cases e153
      obtain ⟨p159, w160, e161, h162, hl163⟩ := R.lst_ r157
      cases e161
      obtain ⟨c165, hk⟩ := wp_chk hk
      obtain ⟨c170, L166, hL167, hLs168, hLd169⟩ := compS_L hk
      refine ⟨_, rfl, _, _, _, _, rfl, rfl, (SqTF O148.s h154), rfl, _, _, _, rfl, (.inl (O148.s _ _ h162)), hl163.len, _, rfl, c165.lo, c165.hi, fun p171 hp172 => ?_⟩
      have z192 := O148.was hp172
      refine lc_range (lo := 0) (n := ((((r1.1, acc132).1).length : Int)).toNat) (fun i H => ∃ (F_ : Hp) (st : Unit) (acc : List Int) (wa : List V), Same F147 F_ ∧ Ow _ F_ [(p171, .lst wa)] H ∧ RL F_ wa acc ∧ wa.length ≤ i ∧ L166 (List.drop i (rangeL 0 (((r1.1, acc132).1).length : Int))) acc st) ⟨F147, (), [], [], Same.refl _, O148.new hp172, RL.nil, Nat.zero_le _, hL167⟩ ?_ ?_
      · rintro i173 H175 hi176 ⟨F181, st182, acc178, wa179, S183, O185, hl184, la180, hL167⟩
        have f_script := S183.seq f_script
        have r7 := r7.mono S183
        have h33 := h33.mono S183
        have h37 := S183 _ _ h37
        have hl38 := hl38.mono S183
        have h48 := S183 _ _ h48
        have r51 := r51.mono S183
        have r52 := r52.mono S183
        have h56 := S183 _ _ h56
        have hl57 := hl57.mono S183
        have h144 := h144.mono S183
        have h151 := h151.mono S183
        have h154 := S183 _ _ h154
        have r157 := r157.mono S183
        have r158 := r158.mono S183
        have h162 := S183 _ _ h162
        have hl163 := hl163.mono S183
        rw [rangeL_get0 hi176] at hL167
        have hk := hLs168 _ _ _ _ hL167
        obtain ⟨y164, he_⟩ : ∃ z_, z_ = 0 + (i173 : Int) := ⟨_, rfl⟩
        try rw [← he_] at hk
        rw [← he_]
        refine ⟨rfl, ?_⟩
        refine ⟨_, rfl, _, rfl, _, _, _, _, rfl, O185.pre0, h151, wp_call hk (fun r186 er187 hk F188 H189 g190 => ?_) (fun n hn => hn.elim)⟩
        have O191 := O185.call0 g190
        have S_ := g190.f
        have f_script := S_.seq f_script
        have r7 := r7.mono S_
        have h33 := h33.mono S_
        have h37 := S_ _ _ h37
        have hl38 := hl38.mono S_
        have h48 := S_ _ _ h48
        have r51 := r51.mono S_
        have r52 := r52.mono S_
        have h56 := S_ _ _ h56
        have hl57 := hl57.mono S_
        have h144 := h144.mono S_
        have h151 := h151.mono S_
        have h154 := S_ _ _ h154
        have r157 := r157.mono S_
        have r158 := r158.mono S_
        have h162 := S_ _ _ h162
        have hl163 := hl163.mono S_
        have S183 := S183.trans S_
        have hl184 := hl184.mono S_
        refine ⟨_, (O191.at 0 rfl), (comp_lenR la180 hi176 (by rw [Int.sub_zero]) c170), ?_⟩
        exact ⟨F188, (), acc178 ++ [r186], wa179 ++ [V.int r186], S183, O191.set 0 (.lst (wa179 ++ [V.int r186])) rfl, RL.snoc hl184 R.int, by rw [List.length_append]; exact Nat.succ_le_succ la180, hk⟩
      rintro H193 ⟨F194, st195, acc196, wa197, S198, O199, hl200, la201, hL202⟩
      rw [rangeL_end0] at hL202
      have hk := hLd169 _ _ hL202
      have f_script := S198.seq f_script
      have r7 := r7.mono S198
      have h33 := h33.mono S198
      have h37 := S198 _ _ h37
      have hl38 := hl38.mono S198
      have h48 := S198 _ _ h48
      have r51 := r51.mono S198
      have r52 := r52.mono S198
      have h56 := S198 _ _ h56
      have hl57 := hl57.mono S198
      have h144 := h144.mono S198
      have h151 := h151.mono S198
      have h154 := S198 _ _ h154
      have r157 := r157.mono S198
      have r158 := r158.mono S198
      have h162 := S198 _ _ h162
      have hl163 := hl163.mono S198
      obtain ⟨F204, O205, S206, h207⟩ := O199.frzE 0 rfl z192
      have f_script := S206.seq f_script
      have r7 := r7.mono S206
      have h33 := h33.mono S206
      have h37 := S206 _ _ h37
      have hl38 := hl38.mono S206
      have h48 := S206 _ _ h48
      have r51 := r51.mono S206
      have r52 := r52.mono S206
      have h56 := S206 _ _ h56
      have hl57 := hl57.mono S206
      have h144 := h144.mono S206
      have h151 := h151.mono S206
      have h154 := S206 _ _ h154
      have r157 := r157.mono S206
      have r158 := r158.mono S206
      have h162 := S206 _ _ h162
      have hl163 := hl163.mono S206
      have hl200 := hl200.mono S206
      have h208 := R.lst (a := Int) h207 hl200
      obtain ⟨p209, w210, e211, h212, hl213⟩ := R.lst_ h208
      cases e211
      obtain ⟨c215, hk⟩ := wp_chk hk
      obtain ⟨c220, L216, hL217, hLs218, hLd219⟩ := compS_L hk
      refine ⟨_, rfl, _, _, _, rfl, (.inl (O205.s _ _ h212)), hl213.len, _, rfl, c215.lo, c215.hi, fun p221 hp222 => ?_⟩
      have z258 := O205.was hp222
      refine lc_range (lo := 0) (n := ((acc196.length : Int)).toNat) (fun i H => ∃ (F_ : Hp) (st : Unit) (acc : List Int) (wa : List V), Same F204 F_ ∧ Ow _ F_ [(p221, .lst wa)] H ∧ RL F_ wa acc ∧ wa.length ≤ i ∧ L216 (List.drop i (rangeL 0 (acc196.length : Int))) acc st) ⟨F204, (), [], [], Same.refl _, O205.new hp222, RL.nil, Nat.zero_le _, hL217⟩ ?_ ?_
      · rintro i223 H225 hi226 ⟨F231, st232, acc228, wa229, S233, O235, hl234, la230, hL217⟩
        have f_script := S233.seq f_script
        have r7 := r7.mono S233
        have h33 := h33.mono S233
        have h37 := S233 _ _ h37
        have hl38 := hl38.mono S233
        have h48 := S233 _ _ h48
        have r51 := r51.mono S233
        have r52 := r52.mono S233
        have h56 := S233 _ _ h56
        have hl57 := hl57.mono S233
        have h144 := h144.mono S233
        have h151 := h151.mono S233
        have h154 := S233 _ _ h154
        have r157 := r157.mono S233
        have r158 := r158.mono S233
        have h162 := S233 _ _ h162
        have hl163 := hl163.mono S233
        have h208 := h208.mono S233
        have h212 := S233 _ _ h212
        have hl213 := hl213.mono S233
        rw [rangeL_get0 hi226] at hL217
        have hk := hLs218 _ _ _ _ hL217
        obtain ⟨y214, he_⟩ : ∃ z_, z_ = 0 + (i223 : Int) := ⟨_, rfl⟩
        try rw [← he_] at hk
        rw [← he_]
        obtain ⟨p236, w237, e238, h239, hl240⟩ := R.lst_ h208
        cases e238
        obtain ⟨y241, e242, hk⟩ := wp_opt hk
        obtain ⟨w243, e244, r245⟩ := hl240.atI e242
        obtain rfl := R.int_ r245
        obtain ⟨p246, w247, e248, h249, hl250⟩ := R.lst_ h208
        cases e248
        obtain ⟨y251, e252, hk⟩ := wp_opt hk
        refine ⟨rfl, _, rfl, _, rfl, _, _, _, _, rfl, rfl, (SqLF O235.s h239), e244, _, rfl, _, acc196, rfl, (by rw [← RL.ints hl250]; exact (SqLF O235.s h249)), (List.length_pos_of_mem (mnI_is e252).1), fun m253 h254 h255 => ?_⟩
        have e256 := mnI_uq e252 h254 h255
        subst e256
        refine ⟨_, _, R.int, R.int, _, rfl, ?_⟩
        refine iteD (fun q257 => ?_) (fun q257 => ?_)
        · have hk := wp_if hk q257
          refine ⟨_, rfl, _, (O235.at 0 rfl), (comp_lenR la230 hi226 (by rw [Int.sub_zero]) c220), ?_⟩
          exact ⟨F231, (), acc228 ++ [y214], wa229 ++ [V.int y214], S233, O235.set 0 (.lst (wa229 ++ [V.int y214])) rfl, RL.snoc hl234 R.int, by rw [List.length_append]; exact Nat.succ_le_succ la230, hk⟩
        · have hk := wp_el hk q257
          exact ⟨F231, (), acc228, wa229, S233, O235, hl234, Nat.le_succ_of_le la230, hk⟩
      rintro H259 ⟨F260, st261, acc262, wa263, S264, O265, hl266, la267, hL268⟩
      rw [rangeL_end0] at hL268
      have hk := hLd219 _ _ hL268
      have f_script := S264.seq f_script
      have r7 := r7.mono S264
      have h33 := h33.mono S264
      have h37 := S264 _ _ h37
      have hl38 := hl38.mono S264
      have h48 := S264 _ _ h48
      have r51 := r51.mono S264
      have r52 := r52.mono S264
      have h56 := S264 _ _ h56
      have hl57 := hl57.mono S264
      have h144 := h144.mono S264
      have h151 := h151.mono S264
      have h154 := S264 _ _ h154
      have r157 := r157.mono S264
      have r158 := r158.mono S264
      have h162 := S264 _ _ h162
      have hl163 := hl163.mono S264
      have h208 := h208.mono S264
      have h212 := S264 _ _ h212
      have hl213 := hl213.mono S264
      obtain ⟨F270, O271, S272, h273⟩ := O265.frzE 0 rfl z258
      have f_script := S272.seq f_script
      have r7 := r7.mono S272
      have h33 := h33.mono S272
      have h37 := S272 _ _ h37
      have hl38 := hl38.mono S272
      have h48 := S272 _ _ h48
      have r51 := r51.mono S272
      have r52 := r52.mono S272
      have h56 := S272 _ _ h56
      have hl57 := hl57.mono S272
      have h144 := h144.mono S272
      have h151 := h151.mono S272
      have h154 := S272 _ _ h154
      have r157 := r157.mono S272
      have r158 := r158.mono S272
      have h162 := S272 _ _ h162
      have hl163 := hl163.mono S272
      have h208 := h208.mono S272
      have h212 := S272 _ _ h212
      have hl213 := hl213.mono S272
      have hl266 := hl266.mono S272
      have h274 := R.lst (a := Int) h273 hl266
      refine ⟨_, rfl, _, _, _, rfl, O271.pre0, h151, wp_call hk (fun r275 er276 hk F277 H278 g279 v280 r281 => ?_) (fun n hn C H1 hC kp => hn.elim)⟩
      have O282 := O271.call0 g279
      have S_ := g279.f
      have f_script := S_.seq f_script
      have r7 := r7.mono S_
      have h33 := h33.mono S_
      have h37 := S_ _ _ h37
      have hl38 := hl38.mono S_
      have h48 := S_ _ _ h48
      have r51 := r51.mono S_
      have r52 := r52.mono S_
      have h56 := S_ _ _ h56
      have hl57 := hl57.mono S_
      have h144 := h144.mono S_
      have h151 := h151.mono S_
      have h154 := S_ _ _ h154
      have r157 := r157.mono S_
      have r158 := r158.mono S_
      have h162 := S_ _ _ h162
      have hl163 := hl163.mono S_
      have h208 := h208.mono S_
      have h212 := S_ _ _ h212
      have hl213 := hl213.mono S_
      have h274 := h274.mono S_
      refine ⟨_, rfl, _, _, _, rfl, O282.pre0, r281, wp_call hk (fun r284 er285 hk F286 H287 g288 p289 w290 hn291 hf292 h293 hl294 => ?_) (fun n hn C H1 hC kp => hn.elim)⟩
      have O295 := O282.call0 g288
      have S_ := g288.f
      have f_script := S_.seq f_script
      have r7 := r7.mono S_
      have h33 := h33.mono S_
      have h37 := S_ _ _ h37
      have hl38 := hl38.mono S_
      have h48 := S_ _ _ h48
      have r51 := r51.mono S_
      have r52 := r52.mono S_
      have h56 := S_ _ _ h56
      have hl57 := hl57.mono S_
      have h144 := h144.mono S_
      have h151 := h151.mono S_
      have h154 := S_ _ _ h154
      have r157 := r157.mono S_
      have r158 := r158.mono S_
      have h162 := S_ _ _ h162
      have hl163 := hl163.mono S_
      have h208 := h208.mono S_
      have h212 := S_ _ _ h212
      have hl213 := hl213.mono S_
      have h274 := h274.mono S_
      have r281 := r281.mono S_
      have O296 := O282.got O295 rfl hn291 hf292 h293
      have z297 := O282.was hn291
      have hi298 : ∀ b ∈ ([p289] : List Addr), ∃ o, (b, o) ∈ ([(p289, .lst w290)] : List (Addr × HO)) := (inA_cons 0 rfl inA_nil)
      have S299 := O296.lendS hi298
      have h300 := R.lst (a := Int) ((lendF_at (by simp)).trans (O296.at 0 rfl) : lendF [p289] F286 _ p289 = some (.lst w290)) (hl294.mono S299)
      refine ⟨_, rfl, _, rfl, _, _, _, _, _, rfl, (O296.lendP hi298), h300, (h274.mono S299), wp_call hk (fun r301 er302 hk F303 H304 g305 => ?_) (fun n hn C H1 hC kp => hn.elim)⟩
      have O306 := O296.borrow S299 g305
      refine ⟨_, rfl, ?_⟩
      refine iteBN (fun q307 => ?_) (fun q307 => ?_)
      · have hk := wp_if hk q307
        obtain ⟨c308, hk⟩ := wp_appL hk
        refine ⟨_, rfl, (.inl ⟨rfl, _, SqL.of (O306.at 0 rfl)⟩), _, _, _, rfl, rfl, (O306.at 0 rfl), (by rw [hl294.len]; exact c308), ?_⟩
        have O310 := O306.set 0 (.lst (w290 ++ [V.int (0 : Int)])) rfl
        have hl311 : RL (a := Int) F286 (w290 ++ [V.int (0 : Int)]) (r284 ++ [(0 : Int)]) := RL.snoc hl294 R.int
        refine ⟨_, rfl, _, _, _, rfl, O310.pre0, r281, wp_call hk (fun r312 er313 hk F314 H315 g316 p317 w318 hn319 hf320 h321 hl322 => ?_) (fun n hn C H1 hC kp => hn.elim)⟩
        have O323 := O310.call0 g316
        have S_ := g316.f
        have f_script := S_.seq f_script
        have r7 := r7.mono S_
        have h33 := h33.mono S_
        have h37 := S_ _ _ h37
        have hl38 := hl38.mono S_
        have h48 := S_ _ _ h48
        have r51 := r51.mono S_
        have r52 := r52.mono S_
        have h56 := S_ _ _ h56
        have hl57 := hl57.mono S_
        have h144 := h144.mono S_
        have h151 := h151.mono S_
        have h154 := S_ _ _ h154
        have r157 := r157.mono S_
        have r158 := r158.mono S_
        have h162 := S_ _ _ h162
        have hl163 := hl163.mono S_
        have h208 := h208.mono S_
        have h212 := S_ _ _ h212
        have hl213 := hl213.mono S_
        have h274 := h274.mono S_
        have r281 := r281.mono S_
        have hl311 := hl311.mono S_
        have O324 := O310.got O323 rfl hn319 hf320 h321
        have z325 := O310.was hn319
        obtain ⟨F326, O327, S328, h329⟩ := O324.frzE 0 rfl z325
        have f_script := S328.seq f_script
        have r7 := r7.mono S328
        have h33 := h33.mono S328
        have h37 := S328 _ _ h37
        have hl38 := hl38.mono S328
        have h48 := S328 _ _ h48
        have r51 := r51.mono S328
        have r52 := r52.mono S328
        have h56 := S328 _ _ h56
        have hl57 := hl57.mono S328
        have h144 := h144.mono S328
        have h151 := h151.mono S328
        have h154 := S328 _ _ h154
        have r157 := r157.mono S328
        have r158 := r158.mono S328
        have h162 := S328 _ _ h162
        have hl163 := hl163.mono S328
        have h208 := h208.mono S328
        have h212 := S328 _ _ h212
        have hl213 := hl213.mono S328
        have h274 := h274.mono S328
        have r281 := r281.mono S328
        have hl311 := hl311.mono S328
        have hl322 := hl322.mono S328
        have h330 := R.lst (a := Int) h329 hl322
        refine ⟨_, rfl, _, _, _, _, _, rfl, O327.pre0, h330, h274, wp_call hk (fun r331 er332 hk F333 H334 g335 => ?_) (fun n hn C H1 hC kp => hn.elim)⟩
        have O336 := O327.call0 g335
        have S_ := g335.f
        have f_script := S_.seq f_script
        have r7 := r7.mono S_
        have h33 := h33.mono S_
        have h37 := S_ _ _ h37
        have hl38 := hl38.mono S_
        have h48 := S_ _ _ h48
        have r51 := r51.mono S_
        have r52 := r52.mono S_
        have h56 := S_ _ _ h56
        have hl57 := hl57.mono S_
        have h144 := h144.mono S_
        have h151 := h151.mono S_
        have h154 := S_ _ _ h154
        have r157 := r157.mono S_
        have r158 := r158.mono S_
        have h162 := S_ _ _ h162
        have hl163 := hl163.mono S_
        have h208 := h208.mono S_
        have h212 := S_ _ _ h212
        have hl213 := hl213.mono S_
        have h274 := h274.mono S_
        have r281 := r281.mono S_
        have hl311 := hl311.mono S_
        have h330 := h330.mono S_
        refine ⟨_, rfl, ?_⟩
        refine iteB (fun q337 => ?_) (fun q337 => ?_)
        · have hk := wp_if hk q337
          refine ⟨_, rfl, _, rfl, _, _, (R.mono r281 O336.s), (R.mono h151 O336.s), ?_⟩
          exact hk _ _  O336.g 
        · have hk := wp_el hk q337
          exact hk _ _  O336.g 
      · have hk := wp_el hk q307
        exact hk _ _  O306.g 
    · have hk := wp_el hk q45
      obtain ⟨p338, v341, v342, e339, h340, r343, r344⟩ := R.t2_ r7
      cases e339
      obtain ⟨p345, w346, e347, h348, hl349⟩ := R.lst_ r343
      cases e347
      obtain ⟨c351, hk⟩ := wp_chk hk
      obtain ⟨c356, L352, hL353, hLs354, hLd355⟩ := compS_L hk
      refine ⟨_, rfl, _, _, _, _, rfl, rfl, (SqTF O30.s h340), rfl, _, _, _, rfl, (.inl (O30.s _ _ h348)), hl349.len, _, rfl, c351.lo, c351.hi, fun p357 hp358 => ?_⟩
      have z378 := O30.was hp358
      refine lc_range (lo := 0) (n := ((r1.1.length : Int)).toNat) (fun i H => ∃ (F_ : Hp) (st : Unit) (acc : List Int) (wa : List V), Same F29 F_ ∧ Ow _ F_ [(p357, .lst wa)] H ∧ RL F_ wa acc ∧ wa.length ≤ i ∧ L352 (List.drop i (rangeL 0 (r1.1.length : Int))) acc st) ⟨F29, (), [], [], Same.refl _, O30.new hp358, RL.nil, Nat.zero_le _, hL353⟩ ?_ ?_
      · rintro i359 H361 hi362 ⟨F367, st368, acc364, wa365, S369, O371, hl370, la366, hL353⟩
        have f_script := S369.seq f_script
        have r7 := r7.mono S369
        have h33 := h33.mono S369
        have h37 := S369 _ _ h37
        have hl38 := hl38.mono S369
        have h340 := S369 _ _ h340
        have r343 := r343.mono S369
        have r344 := r344.mono S369
        have h348 := S369 _ _ h348
        have hl349 := hl349.mono S369
        rw [rangeL_get0 hi362] at hL353
        have hk := hLs354 _ _ _ _ hL353
        obtain ⟨y350, he_⟩ : ∃ z_, z_ = 0 + (i359 : Int) := ⟨_, rfl⟩
        try rw [← he_] at hk
        rw [← he_]
        refine ⟨rfl, ?_⟩
        refine ⟨_, rfl, _, rfl, _, _, _, _, rfl, O371.pre0, r7, wp_call hk (fun r372 er373 hk F374 H375 g376 => ?_) (fun n hn => hn.elim)⟩
        have O377 := O371.call0 g376
        have S_ := g376.f
        have f_script := S_.seq f_script
        have r7 := r7.mono S_
        have h33 := h33.mono S_
        have h37 := S_ _ _ h37
        have hl38 := hl38.mono S_
        have h340 := S_ _ _ h340
        have r343 := r343.mono S_
        have r344 := r344.mono S_
        have h348 := S_ _ _ h348
        have hl349 := hl349.mono S_
        have S369 := S369.trans S_
        have hl370 := hl370.mono S_
        refine ⟨_, (O377.at 0 rfl), (comp_lenR la366 hi362 (by rw [Int.sub_zero]) c356), ?_⟩
        exact ⟨F374, (), acc364 ++ [r372], wa365 ++ [V.int r372], S369, O377.set 0 (.lst (wa365 ++ [V.int r372])) rfl, RL.snoc hl370 R.int, by rw [List.length_append]; exact Nat.succ_le_succ la366, hk⟩
      rintro H379 ⟨F380, st381, acc382, wa383, S384, O385, hl386, la387, hL388⟩
      rw [rangeL_end0] at hL388
      have hk := hLd355 _ _ hL388
      have f_script := S384.seq f_script
      have r7 := r7.mono S384
      have h33 := h33.mono S384
      have h37 := S384 _ _ h37
      have hl38 := hl38.mono S384
      have h340 := S384 _ _ h340
      have r343 := r343.mono S384
      have r344 := r344.mono S384
      have h348 := S384 _ _ h348
      have hl349 := hl349.mono S384
      obtain ⟨F390, O391, S392, h393⟩ := O385.frzE 0 rfl z378
      have f_script := S392.seq f_script
      have r7 := r7.mono S392
      have h33 := h33.mono S392
      have h37 := S392 _ _ h37
      have hl38 := hl38.mono S392
      have h340 := S392 _ _ h340
      have r343 := r343.mono S392
      have r344 := r344.mono S392
      have h348 := S392 _ _ h348
      have hl349 := hl349.mono S392
      have hl386 := hl386.mono S392
      have h394 := R.lst (a := Int) h393 hl386
      obtain ⟨p395, w396, e397, h398, hl399⟩ := R.lst_ h394
      cases e397
      obtain ⟨c401, hk⟩ := wp_chk hk
      obtain ⟨c406, L402, hL403, hLs404, hLd405⟩ := compS_L hk
      refine ⟨_, rfl, _, _, _, rfl, (.inl (O391.s _ _ h398)), hl399.len, _, rfl, c401.lo, c401.hi, fun p407 hp408 => ?_⟩
      have z444 := O391.was hp408
      refine lc_range (lo := 0) (n := ((acc382.length : Int)).toNat) (fun i H => ∃ (F_ : Hp) (st : Unit) (acc : List Int) (wa : List V), Same F390 F_ ∧ Ow _ F_ [(p407, .lst wa)] H ∧ RL F_ wa acc ∧ wa.length ≤ i ∧ L402 (List.drop i (rangeL 0 (acc382.length : Int))) acc st) ⟨F390, (), [], [], Same.refl _, O391.new hp408, RL.nil, Nat.zero_le _, hL403⟩ ?_ ?_
      · rintro i409 H411 hi412 ⟨F417, st418, acc414, wa415, S419, O421, hl420, la416, hL403⟩
        have f_script := S419.seq f_script
        have r7 := r7.mono S419
        have h33 := h33.mono S419
        have h37 := S419 _ _ h37
        have hl38 := hl38.mono S419
        have h340 := S419 _ _ h340
        have r343 := r343.mono S419
        have r344 := r344.mono S419
        have h348 := S419 _ _ h348
        have hl349 := hl349.mono S419
        have h394 := h394.mono S419
        have h398 := S419 _ _ h398
        have hl399 := hl399.mono S419
        rw [rangeL_get0 hi412] at hL403
        have hk := hLs404 _ _ _ _ hL403
        obtain ⟨y400, he_⟩ : ∃ z_, z_ = 0 + (i409 : Int) := ⟨_, rfl⟩
        try rw [← he_] at hk
        rw [← he_]
        obtain ⟨p422, w423, e424, h425, hl426⟩ := R.lst_ h394
        cases e424
        obtain ⟨y427, e428, hk⟩ := wp_opt hk
        obtain ⟨w429, e430, r431⟩ := hl426.atI e428
        obtain rfl := R.int_ r431
        obtain ⟨p432, w433, e434, h435, hl436⟩ := R.lst_ h394
        cases e434
        obtain ⟨y437, e438, hk⟩ := wp_opt hk
        refine ⟨rfl, _, rfl, _, rfl, _, _, _, _, rfl, rfl, (SqLF O421.s h425), e430, _, rfl, _, acc382, rfl, (by rw [← RL.ints hl436]; exact (SqLF O421.s h435)), (List.length_pos_of_mem (mnI_is e438).1), fun m439 h440 h441 => ?_⟩
        have e442 := mnI_uq e438 h440 h441
        subst e442
        refine ⟨_, _, R.int, R.int, _, rfl, ?_⟩
        refine iteD (fun q443 => ?_) (fun q443 => ?_)
        · have hk := wp_if hk q443
          refine ⟨_, rfl, _, (O421.at 0 rfl), (comp_lenR la416 hi412 (by rw [Int.sub_zero]) c406), ?_⟩
          exact ⟨F417, (), acc414 ++ [y400], wa415 ++ [V.int y400], S419, O421.set 0 (.lst (wa415 ++ [V.int y400])) rfl, RL.snoc hl420 R.int, by rw [List.length_append]; exact Nat.succ_le_succ la416, hk⟩
        · have hk := wp_el hk q443
          exact ⟨F417, (), acc414, wa415, S419, O421, hl420, Nat.le_succ_of_le la416, hk⟩
      rintro H445 ⟨F446, st447, acc448, wa449, S450, O451, hl452, la453, hL454⟩
      rw [rangeL_end0] at hL454
      have hk := hLd405 _ _ hL454
      have f_script := S450.seq f_script
      have r7 := r7.mono S450
      have h33 := h33.mono S450
      have h37 := S450 _ _ h37
      have hl38 := hl38.mono S450
      have h340 := S450 _ _ h340
      have r343 := r343.mono S450
      have r344 := r344.mono S450
      have h348 := S450 _ _ h348
      have hl349 := hl349.mono S450
      have h394 := h394.mono S450
      have h398 := S450 _ _ h398
      have hl399 := hl399.mono S450
      obtain ⟨F456, O457, S458, h459⟩ := O451.frzE 0 rfl z444
      have f_script := S458.seq f_script
      have r7 := r7.mono S458
      have h33 := h33.mono S458
      have h37 := S458 _ _ h37
      have hl38 := hl38.mono S458
      have h340 := S458 _ _ h340
      have r343 := r343.mono S458
      have r344 := r344.mono S458
      have h348 := S458 _ _ h348
      have hl349 := hl349.mono S458
      have h394 := h394.mono S458
      have h398 := S458 _ _ h398
      have hl399 := hl399.mono S458
      have hl452 := hl452.mono S458
      have h460 := R.lst (a := Int) h459 hl452
      refine ⟨_, rfl, _, _, _, rfl, O457.pre0, r7, wp_call hk (fun r461 er462 hk F463 H464 g465 v466 r467 => ?_) (fun n hn C H1 hC kp => hn.elim)⟩
      have O468 := O457.call0 g465
      have S_ := g465.f
      have f_script := S_.seq f_script
      have r7 := r7.mono S_
      have h33 := h33.mono S_
      have h37 := S_ _ _ h37
      have hl38 := hl38.mono S_
      have h340 := S_ _ _ h340
      have r343 := r343.mono S_
      have r344 := r344.mono S_
      have h348 := S_ _ _ h348
      have hl349 := hl349.mono S_
      have h394 := h394.mono S_
      have h398 := S_ _ _ h398
      have hl399 := hl399.mono S_
      have h460 := h460.mono S_
      refine ⟨_, rfl, _, _, _, rfl, O468.pre0, r467, wp_call hk (fun r470 er471 hk F472 H473 g474 p475 w476 hn477 hf478 h479 hl480 => ?_) (fun n hn C H1 hC kp => hn.elim)⟩
      have O481 := O468.call0 g474
      have S_ := g474.f
      have f_script := S_.seq f_script
      have r7 := r7.mono S_
      have h33 := h33.mono S_
      have h37 := S_ _ _ h37
      have hl38 := hl38.mono S_
      have h340 := S_ _ _ h340
      have r343 := r343.mono S_
      have r344 := r344.mono S_
      have h348 := S_ _ _ h348
      have hl349 := hl349.mono S_
      have h394 := h394.mono S_
      have h398 := S_ _ _ h398
      have hl399 := hl399.mono S_
      have h460 := h460.mono S_
      have r467 := r467.mono S_
      have O482 := O468.got O481 rfl hn477 hf478 h479
      have z483 := O468.was hn477
      have hi484 : ∀ b ∈ ([p475] : List Addr), ∃ o, (b, o) ∈ ([(p475, .lst w476)] : List (Addr × HO)) := (inA_cons 0 rfl inA_nil)
      have S485 := O482.lendS hi484
      have h486 := R.lst (a := Int) ((lendF_at (by simp)).trans (O482.at 0 rfl) : lendF [p475] F472 _ p475 = some (.lst w476)) (hl480.mono S485)
      refine ⟨_, rfl, _, rfl, _, _, _, _, _, rfl, (O482.lendP hi484), h486, (h460.mono S485), wp_call hk (fun r487 er488 hk F489 H490 g491 => ?_) (fun n hn C H1 hC kp => hn.elim)⟩
      have O492 := O482.borrow S485 g491
      refine ⟨_, rfl, ?_⟩
      refine iteBN (fun q493 => ?_) (fun q493 => ?_)
      · have hk := wp_if hk q493
        obtain ⟨c494, hk⟩ := wp_appL hk
        refine ⟨_, rfl, (.inl ⟨rfl, _, SqL.of (O492.at 0 rfl)⟩), _, _, _, rfl, rfl, (O492.at 0 rfl), (by rw [hl480.len]; exact c494), ?_⟩
        have O496 := O492.set 0 (.lst (w476 ++ [V.int (0 : Int)])) rfl
        have hl497 : RL (a := Int) F472 (w476 ++ [V.int (0 : Int)]) (r470 ++ [(0 : Int)]) := RL.snoc hl480 R.int
        refine ⟨_, rfl, _, _, _, rfl, O496.pre0, r467, wp_call hk (fun r498 er499 hk F500 H501 g502 p503 w504 hn505 hf506 h507 hl508 => ?_) (fun n hn C H1 hC kp => hn.elim)⟩
        have O509 := O496.call0 g502
        have S_ := g502.f
        have f_script := S_.seq f_script
        have r7 := r7.mono S_
        have h33 := h33.mono S_
        have h37 := S_ _ _ h37
        have hl38 := hl38.mono S_
        have h340 := S_ _ _ h340
        have r343 := r343.mono S_
        have r344 := r344.mono S_
        have h348 := S_ _ _ h348
        have hl349 := hl349.mono S_
        have h394 := h394.mono S_
        have h398 := S_ _ _ h398
        have hl399 := hl399.mono S_
        have h460 := h460.mono S_
        have r467 := r467.mono S_
        have hl497 := hl497.mono S_
        have O510 := O496.got O509 rfl hn505 hf506 h507
        have z511 := O496.was hn505
        obtain ⟨F512, O513, S514, h515⟩ := O510.frzE 0 rfl z511
        have f_script := S514.seq f_script
        have r7 := r7.mono S514
        have h33 := h33.mono S514
        have h37 := S514 _ _ h37
        have hl38 := hl38.mono S514
        have h340 := S514 _ _ h340
        have r343 := r343.mono S514
        have r344 := r344.mono S514
        have h348 := S514 _ _ h348
        have hl349 := hl349.mono S514
        have h394 := h394.mono S514
        have h398 := S514 _ _ h398
        have hl399 := hl399.mono S514
        have h460 := h460.mono S514
        have r467 := r467.mono S514
        have hl497 := hl497.mono S514
        have hl508 := hl508.mono S514
        have h516 := R.lst (a := Int) h515 hl508
        refine ⟨_, rfl, _, _, _, _, _, rfl, O513.pre0, h516, h460, wp_call hk (fun r517 er518 hk F519 H520 g521 => ?_) (fun n hn C H1 hC kp => hn.elim)⟩
        have O522 := O513.call0 g521
        have S_ := g521.f
        have f_script := S_.seq f_script
        have r7 := r7.mono S_
        have h33 := h33.mono S_
        have h37 := S_ _ _ h37
        have hl38 := hl38.mono S_
        have h340 := S_ _ _ h340
        have r343 := r343.mono S_
        have r344 := r344.mono S_
        have h348 := S_ _ _ h348
        have hl349 := hl349.mono S_
        have h394 := h394.mono S_
        have h398 := S_ _ _ h398
        have hl399 := hl399.mono S_
        have h460 := h460.mono S_
        have r467 := r467.mono S_
        have hl497 := hl497.mono S_
        have h516 := h516.mono S_
        refine ⟨_, rfl, ?_⟩
        refine iteB (fun q523 => ?_) (fun q523 => ?_)
        · have hk := wp_if hk q523
          refine ⟨_, rfl, _, rfl, _, _, (R.mono r467 O522.s), (R.mono r7 O522.s), ?_⟩
          exact hk _ _  O522.g 
        · have hk := wp_el hk q523
          exact hk _ _  O522.g 
      · have hk := wp_el hk q493
        exact hk _ _  O492.g 
end
set_option maxHeartbeats 2000000
/-! ### cells, digits, numbers -/
theorem rangeL_mem {lo hi x : Int} : x ∈ rangeL lo hi ↔ lo ≤ x ∧ x < hi := rangeL_mem'
theorem rangeL_nodup (lo hi : Int) : (rangeL lo hi).Nodup := by
  unfold rangeL
  rw [List.nodup_iff_pairwise_ne, List.pairwise_map]
  exact List.nodup_range.imp fun h e => h (by omega)
theorem mulx_l {i j : Int} (h : -(2 ^ 64) < i) (h2 : i < 2 ^ 64) : CMulX i j := .inl (.inl ⟨h, h2⟩)
theorem mulx_r {i j : Int} (h : -(2 ^ 64) < j) (h2 : j < 2 ^ 64) : CMulX i j := .inl (.inr ⟨h, h2⟩)
theorem cell_ok (s : List Int) (k : Int) (k0 : 0 ≤ k) : ∃ c, m_law_cell_at s k = .ok c := by
  unfold m_law_cell_at
  by_cases h : k < (s.length : Int)
  · rw [if_pos h]
    obtain ⟨x, e, _⟩ := atI_some (xs := s) (j := k) k0 h
    rw [opt_b e]
    exact ⟨x, rfl⟩
  · rw [if_neg h]
    exact ⟨0, rfl⟩
theorem digits_ok (c m top : Int) (m0 : 0 ≤ m) (m1 : m ≤ 1000) (t0 : 0 < top) (t1 : top ≤ 10 ^ 40) : ∃ xs, m_law_digits c m top = .ok xs ∧ (xs.length : Int) = m ∧ ∀ x ∈ xs, 0 ≤ x ∧ x < top := by
  unfold m_law_digits
  rw [chk_b (show okR m from ⟨by omega, by omega⟩)]
  obtain ⟨st, e, h1, h2⟩ := loopN_run (f := fun (y7 : Int) (st19 : Int × (List Int)) =>
    chk (CMulX (977 : Int) y7) >>= fun _ =>
    chk (CMulX ((c + ((977 : Int) * y7)) + (1 : Int)) (48271 : Int)) >>= fun _ =>
    chk (0 < (2147483647 : Int)) >>= fun _ =>
    chk (CMulX ((((c + ((977 : Int) * y7)) + (1 : Int)) * (48271 : Int)) % (2147483647 : Int)) ((((c + ((977 : Int) * y7)) + (1 : Int)) * (48271 : Int)) % (2147483647 : Int))) >>= fun _ =>
    chk (0 < (2147483629 : Int)) >>= fun _ =>
    ret ((((((c + ((977 : Int) * y7)) + (1 : Int)) * (48271 : Int)) % (2147483647 : Int)) * ((((c + ((977 : Int) * y7)) + (1 : Int)) * (48271 : Int)) % (2147483647 : Int))) % (2147483629 : Int)) >>= fun n31 =>
    chk (CMulX (40692 : Int) (y7 + (3 : Int))) >>= fun _ =>
    chk (CMulX (n31 + ((40692 : Int) * (y7 + (3 : Int)))) (69621 : Int)) >>= fun _ =>
    chk (0 < (2147483423 : Int)) >>= fun _ =>
    chk (CDivW (((n31 + ((40692 : Int) * (y7 + (3 : Int)))) * (69621 : Int)) % (2147483423 : Int)) (8 : Int)) >>= fun _ =>
    ret ((((n31 + ((40692 : Int) * (y7 + (3 : Int)))) * (69621 : Int)) % (2147483423 : Int)) / (8 : Int)) >>= fun n37 =>
    if ((10 : Int) ^ Int.toNat (18 : Int)) ≤ c then (
    chk (0 < top) >>= fun _ =>
    appL st19.2 (st19.1 % top) >>= fun _ =>
    chk (CDivW st19.1 top) >>= fun _ =>
    (.ok ((st19.1 / top), (st19.2 ++ [(st19.1 % top)])) : M _))
    else (
    chk (0 < top) >>= fun _ =>
    appL st19.2 (n37 % top) >>= fun _ =>
    chk (CDivW st19.1 top) >>= fun _ =>
    .ok ((st19.1 / top), (st19.2 ++ [(n37 % top)])))) (all := rangeL 0 m) (x := (c, ([] : List Int))) (fun pre st => st.2.length = pre.length ∧ ∀ x ∈ st.2, 0 ≤ x ∧ x < top) ⟨rfl, fun _ z => nomatch z⟩ fun pre y post ⟨r, xs⟩ ea ⟨g1, g2⟩ => by
      have g1 : xs.length = pre.length := g1
      have g2 : ∀ x ∈ xs, 0 ≤ x ∧ x < top := g2
      have hpl : pre.length < (rangeL 0 m).length := by rw [ea]; simp
      rw [rangeL_length] at hpl
      rw [chk_b (mulx_l (by decide) (by decide)), chk_b (mulx_r (by decide) (by decide)), chk_b (by decide)]
      have b0 := Int.emod_nonneg ((c + 977 * y + 1) * 48271) (show (2147483647 : Int) ≠ 0 by decide)
      have b1 := Int.emod_lt_of_pos ((c + 977 * y + 1) * 48271) (show (0 : Int) < 2147483647 by decide)
      rw [chk_b (mulx_l (by omega) (by omega)), chk_b (by decide), ret_b, chk_b (mulx_l (by decide) (by decide)), chk_b (mulx_r (by decide) (by decide)), chk_b (by decide), chk_b (cdivW (by decide) (by decide)), ret_b]
      have both : ∀ z : Int, ∃ x', (chk (0 < top) >>= fun _ => appL xs (z % top) >>= fun _ => chk (CDivW r top) >>= fun _ => (.ok ((r / top), (xs ++ [z % top])) : M (Int × List Int))) = .ok x' ∧ x'.2.length = (pre ++ [y]).length ∧ ∀ x ∈ x'.2, 0 ≤ x ∧ x < top := fun z => by
        refine ⟨(r / top, xs ++ [z % top]), by rw [chk_b t0, bind_ok (appL_ok (by omega)), chk_b (cdivW t0 t1)], by show (xs ++ [z % top]).length = _; rw [List.length_append, List.length_append, g1]; rfl, fun x hx => ?_⟩
        rcases List.mem_append.mp hx with hx | hx
        · exact g2 x hx
        · rw [List.mem_singleton.mp hx]
          exact ⟨Int.emod_nonneg _ (by omega), Int.emod_lt_of_pos _ t0⟩
      by_cases hc : ((10 : Int) ^ Int.toNat (18 : Int)) ≤ c
      · rw [if_pos hc]; exact both r
      · rw [if_neg hc]; exact both _
  rw [rangeL_length] at h1
  exact ⟨st.2, bind_ok e _, by omega, h2⟩
theorem number_ok (x : Int) (x0 : 0 ≤ x) (x1 : x < 10 ^ 9) : ∃ y, m_law_number x = .ok y ∧ y.natAbs < 2 ^ 99 := by
  have e9 : (10 : Int) ^ 9 = 1000000000 := by decide
  have e29 : (10 : Int) ^ Int.toNat (29 : Int) = 100000000000000000000000000000 := by decide
  unfold m_law_number
  rw [chk_b (show CPow x 4 from ⟨by decide, by decide, by omega⟩), e29, chk_b (cmulW (by decide +kernel) (by decide +kernel)), chk_b (by decide), ret_b]
  rw [chk_b (cdivW (by decide) (by decide)), chk_b (by decide), chk_b (cdivW (by decide) (by decide)), chk_b (by decide), chk_b (cdivW (by decide) (by decide)), chk_b (by decide), chk_b (cdivW (by decide) (by decide)), chk_b (by decide), chk_b (by decide)]
  obtain ⟨g, hg⟩ : ∃ g : Int, g = x ^ Int.toNat 4 % (2 * 100000000000000000000000000000) - 100000000000000000000000000000 := ⟨_, rfl⟩
  have g0 := Int.emod_nonneg (x ^ Int.toNat 4) (show (2 * 100000000000000000000000000000 : Int) ≠ 0 by decide)
  have g1 := Int.emod_lt_of_pos (x ^ Int.toNat 4) (show (0 : Int) < 2 * 100000000000000000000000000000 by decide)
  have hgb : g.natAbs < 2 ^ 99 := Nat.lt_of_le_of_lt (m := 100000000000000000000000000000) (by omega) (by decide)
  rw [← hg]
  obtain ⟨y, e1, e2⟩ := atI_some (xs := [(x / 5) % 7 - 3, (x / 5) % 2001 - 1000, (x / 5) % 13, (x / 5) % 6, g]) (j := x % 5) (by omega) (by show x % 5 < ((5 : Nat) : Int); omega)
  rw [opt_b e1]
  refine ⟨y, rfl, ?_⟩
  have hm := List.mem_of_getElem? e2
  simp only [List.mem_cons, List.not_mem_nil, or_false] at hm
  rcases hm with e | e | e | e | e
  · exact Nat.lt_of_le_of_lt (m := 10000) (by omega) (by decide)
  · exact Nat.lt_of_le_of_lt (m := 10000) (by omega) (by decide)
  · exact Nat.lt_of_le_of_lt (m := 10000) (by omega) (by decide)
  · exact Nat.lt_of_le_of_lt (m := 10000) (by omega) (by decide)
  · rw [e]; exact hgb
/-! ### the drawn tree -/
theorem insL_perm {a : Type} (xs : List a) (i : Int) (y : a) : (insL xs i y).Perm (xs ++ [y]) := by
  unfold insL
  have h := List.take_append_drop i.toNat xs
  have h2 : (xs.take i.toNat ++ ([y] ++ xs.drop i.toNat)).Perm (xs.take i.toNat ++ (xs.drop i.toNat ++ [y])) := List.Perm.append_left _ List.perm_append_comm
  have e : xs.take i.toNat ++ (xs.drop i.toNat ++ [y]) = xs ++ [y] := by rw [← List.append_assoc, h]
  rw [e] at h2
  rw [List.append_assoc]
  exact h2
def treeRest (x_script : List Int) (c1 m : Int) : M Tr :=
  m_law_digits c1 (m - ((cutL x_script (some (3 : Int)) (some ((3 : Int) + m))).length : Int)) ((10 : Int) ^ Int.toNat (12 : Int)) >>= fun r388 =>
  chk ((cutL x_script (some (3 : Int)) (some ((3 : Int) + m))).length + r388.length < 16777216) >>= fun _ =>
  chk (okR m) >>= fun _ =>
  loopN (fun (y432 : Int) (st444 : (List Int)) =>
  opt (L2.atI ((cutL x_script (some (3 : Int)) (some ((3 : Int) + m))) ++ r388) y432) >>= fun y455 =>
  m_law_digits y455 (1 : Int) (720720 : Int) >>= fun r460 =>
  opt (L2.atI r460 (0 : Int)) >>= fun y484 =>
  chk (0 < ((st444.length : Int) + (1 : Int))) >>= fun _ =>
  chk (CIns st444.length (y484 % ((st444.length : Int) + (1 : Int)))) >>= fun _ =>
  .ok (insL st444 (y484 % ((st444.length : Int) + (1 : Int))) y432)) (rangeL 0 m) ([] : List Int) >>= fun st496 =>
  chk (CRep ([(0 : Int)]).length m) >>= fun _ =>
  chk (okR m) >>= fun _ =>
  loopN (fun (y529 : Int) (st541 : (List Int) × (List (T3 Int Int Int))) =>
  opt (L2.atI ((cutL x_script (some (3 : Int)) (some ((3 : Int) + m))) ++ r388) y529) >>= fun y556 =>
  m_law_digits y556 (4 : Int) ((10 : Int) ^ Int.toNat (9 : Int)) >>= fun r561 =>
  opt (L2.atI r561 (1 : Int)) >>= fun y585 =>
  m_law_number y585 >>= fun r590 =>
  opt (L2.atI st496 y529) >>= fun y596 =>
  setI st541.1 y596 r590 >>= fun z603 =>
  if (0 : Int) < y529 then (
  opt (L2.atI r561 (2 : Int)) >>= fun y612 =>
  opt (L2.atI r561 (2 : Int)) >>= fun y630 =>
  chk (CDivW y630 (40 : Int)) >>= fun _ =>
  chk (0 < (3 : Int)) >>= fun _ =>
  opt (L2.atI ([y529, (if (2 : Int) < y529 then (2 : Int) else y529), (if (5 : Int) < y529 then (5 : Int) else y529)]) ((y630 / (40 : Int)) % (3 : Int))) >>= fun y642 =>
  chk (0 < y642) >>= fun _ =>
  opt (L2.atI st496 ((y529 - (1 : Int)) - (y612 % y642))) >>= fun y648 =>
  opt (L2.atI st496 y529) >>= fun y653 =>
  opt (L2.atI st496 y529) >>= fun y658 =>
  opt (L2.atI r561 (3 : Int)) >>= fun y668 =>
  m_law_number y668 >>= fun r673 =>
  appL st541.2 (T3.mk (if y653 < y648 then y653 else y648) (if y658 > y648 then y658 else y648) r673) >>= fun _ =>
  .ok (z603, (st541.2 ++ [(T3.mk (if y653 < y648 then y653 else y648) (if y658 > y648 then y658 else y648) r673)])))
  else (
  .ok (z603, st541.2))) (rangeL 0 m) ((repL m ([(0 : Int)])), ([] : List (T3 Int Int Int))) >>= fun st693 =>
  .ok (st693.1, (sortT st693.2))
theorem rep0 (m : Int) : repL m [(0 : Int)] = List.replicate m.toNat 0 := by
  unfold repL
  induction m.toNat with
  | zero => rfl
  | succ n ih => rw [List.replicate_succ, List.flatten_cons, ih]; rfl
theorem cut3_len (s : List Int) (m : Int) (h : 0 ≤ m) : ((cutL s (some (3 : Int)) (some ((3 : Int) + m))).length : Int) ≤ m := by
  unfold cutL
  rw [List.length_take, List.length_drop]
  have e1 : HT.sIx s.length 0 (some (3 : Int)) = min 3 s.length := by
    show (if (3 : Int) < 0 then ((3 : Int) + (s.length : Int)).toNat else min (3 : Int).toNat s.length) = _
    rw [if_neg (by decide)]
    rfl
  have e2 : HT.sIx s.length s.length (some ((3 : Int) + m)) = min (3 + m).toNat s.length := by
    show (if (3 : Int) + m < 0 then ((3 : Int) + m + (s.length : Int)).toNat else min ((3 : Int) + m).toNat s.length) = _
    rw [if_neg (by omega)]
  rw [e1, e2]
  omega
theorem at_in {xs : List Int} {k : Int} (k0 : 0 ≤ k) (k1 : k < (xs.length : Int)) : ∃ x, L2.atI xs k = some x ∧ x ∈ xs ∧ xs[k.toNat]? = some x := by
  obtain ⟨x, h1, h2⟩ := atI_some (xs := xs) (j := k) k0 k1
  exact ⟨x, h1, List.mem_of_getElem? h2, h2⟩
theorem range_pre {m : Int} {pre post : List Int} {y : Int} (ea : rangeL 0 m = pre ++ y :: post) : (pre.length : Int) = y ∧ 0 ≤ y ∧ y < m := by
  have h1 : (rangeL 0 m)[pre.length]? = some y := by rw [ea, List.getElem?_append_right (Nat.le_refl _), Nat.sub_self]; rfl
  have hlt := (List.getElem?_eq_some_iff.mp h1).1
  rw [rangeL_length] at hlt
  unfold rangeL at h1
  rw [List.getElem?_map, List.getElem?_range (by omega)] at h1
  have : (0 : Int) + (pre.length : Int) = y := Option.some.inj h1
  omega
theorem treeRest_ok (s : List Int) (c1 m : Int) (m1 : 1 ≤ m) (m2 : m ≤ 100) : ∃ t, treeRest s c1 m = .ok t ∧ TreeOk t ∧ (t.1.length : Int) = m ∧ (∀ x ∈ t.1, x.natAbs < 2 ^ 99) ∧ ∀ z ∈ t.2, z.c.natAbs < 2 ^ 99 := by
  have hcut := cut3_len s m (by omega)
  unfold treeRest
  obtain ⟨r, e1, l1, _⟩ := digits_ok c1 (m - ((cutL s (some (3 : Int)) (some ((3 : Int) + m))).length : Int)) ((10 : Int) ^ Int.toNat (12 : Int)) (by omega) (by omega) (by decide) (by decide)
  rw [bind_ok e1, chk_b (by omega), chk_b (show okR m from ⟨by omega, by omega⟩)]
  obtain ⟨L, hL⟩ : ∃ L, L = cutL s (some (3 : Int)) (some ((3 : Int) + m)) ++ r := ⟨_, rfl⟩
  have lL : (L.length : Int) = m := by rw [hL, List.length_append]; omega
  rw [← hL]
  -- the order
  obtain ⟨o, e2, hp⟩ := loopN_run (f := fun (y432 : Int) (st444 : (List Int)) =>
    opt (L2.atI L y432) >>= fun y455 =>
    m_law_digits y455 (1 : Int) (720720 : Int) >>= fun r460 =>
    opt (L2.atI r460 (0 : Int)) >>= fun y484 =>
    chk (0 < ((st444.length : Int) + (1 : Int))) >>= fun _ =>
    chk (CIns st444.length (y484 % ((st444.length : Int) + (1 : Int)))) >>= fun _ =>
    (.ok (insL st444 (y484 % ((st444.length : Int) + (1 : Int))) y432) : M _)) (all := rangeL 0 m) (x := ([] : List Int)) (fun pre st => st.Perm pre) (List.Perm.refl _) fun pre y post st ea g => by
      obtain ⟨hpl, y0, y1⟩ := range_pre ea
      have hl := g.length_eq
      obtain ⟨c, a1, _⟩ := at_in (xs := L) y0 (by omega)
      obtain ⟨d, b1, b2, b3⟩ := digits_ok c 1 720720 (by decide) (by decide) (by decide) (by decide)
      obtain ⟨x, x1, _⟩ := at_in (xs := d) (k := 0) (by decide) (by omega)
      have z0 := Int.emod_nonneg x (show (st.length : Int) + 1 ≠ 0 by omega)
      have z1 := Int.emod_lt_of_pos x (show (0 : Int) < (st.length : Int) + 1 by omega)
      refine ⟨_, by rw [opt_b a1, bind_ok b1, opt_b x1, chk_b (by omega), chk_b (show CIns st.length (x % ((st.length : Int) + 1)) from ⟨by omega, z0, by omega⟩)], ?_⟩
      exact (insL_perm _ _ _).trans (g.append_right _)
  rw [bind_ok e2, chk_b (show CRep ([(0 : Int)]).length m from ⟨by omega, by omega, by show 1 * _ < _; omega⟩), chk_b (show okR m from ⟨by omega, by omega⟩)]
  have ol := hp.length_eq
  rw [rangeL_length] at ol
  have ond : o.Nodup := hp.nodup_iff.mpr (rangeL_nodup _ _)
  have org : ∀ x ∈ o, 0 ≤ x ∧ x < m := fun x hx => rangeL_mem.mp (hp.mem_iff.mp hx)
  obtain ⟨⟨ws, ts⟩, e3, h1, h2, h3, h4⟩ := loopN_run (f := fun (y529 : Int) (st541 : (List Int) × (List (T3 Int Int Int))) =>
    opt (L2.atI L y529) >>= fun y556 =>
    m_law_digits y556 (4 : Int) ((10 : Int) ^ Int.toNat (9 : Int)) >>= fun r561 =>
    opt (L2.atI r561 (1 : Int)) >>= fun y585 =>
    m_law_number y585 >>= fun r590 =>
    opt (L2.atI o y529) >>= fun y596 =>
    setI st541.1 y596 r590 >>= fun z603 =>
    if (0 : Int) < y529 then (
    opt (L2.atI r561 (2 : Int)) >>= fun y612 =>
    opt (L2.atI r561 (2 : Int)) >>= fun y630 =>
    chk (CDivW y630 (40 : Int)) >>= fun _ =>
    chk (0 < (3 : Int)) >>= fun _ =>
    opt (L2.atI ([y529, (if (2 : Int) < y529 then (2 : Int) else y529), (if (5 : Int) < y529 then (5 : Int) else y529)]) ((y630 / (40 : Int)) % (3 : Int))) >>= fun y642 =>
    chk (0 < y642) >>= fun _ =>
    opt (L2.atI o ((y529 - (1 : Int)) - (y612 % y642))) >>= fun y648 =>
    opt (L2.atI o y529) >>= fun y653 =>
    opt (L2.atI o y529) >>= fun y658 =>
    opt (L2.atI r561 (3 : Int)) >>= fun y668 =>
    m_law_number y668 >>= fun r673 =>
    appL st541.2 (T3.mk (if y653 < y648 then y653 else y648) (if y658 > y648 then y658 else y648) r673) >>= fun _ =>
    .ok (z603, (st541.2 ++ [(T3.mk (if y653 < y648 then y653 else y648) (if y658 > y648 then y658 else y648) r673)])))
    else (
    (.ok (z603, st541.2) : M _))) (all := rangeL 0 m) (x := ((repL m ([(0 : Int)])), ([] : List (T3 Int Int Int))))
    (fun pre st => (st.1.length : Int) = m ∧ (∀ x ∈ st.1, x.natAbs < 2 ^ 99) ∧ (∀ z ∈ st.2, z.c.natAbs < 2 ^ 99) ∧ (pre = [] ∧ st.2 = [] ∨ Grown (o.take pre.length) st.2))
    ⟨by rw [rep0, List.length_replicate]; omega, fun x hx => by rw [rep0] at hx; rw [(List.mem_replicate.mp hx).2]; decide, (fun _ z => nomatch z), .inl ⟨rfl, rfl⟩⟩ fun pre y post ⟨ws, ts⟩ ea ⟨g1, g2, g3, g4⟩ => by
      have g1 : (ws.length : Int) = m := g1
      have g2 : ∀ x ∈ ws, x.natAbs < 2 ^ 99 := g2
      have g3 : ∀ z ∈ ts, z.c.natAbs < 2 ^ 99 := g3
      have g4 : pre = [] ∧ ts = [] ∨ Grown (o.take pre.length) ts := g4
      obtain ⟨hpl, y0, y1⟩ := range_pre ea
      obtain ⟨c, a1, _⟩ := at_in (xs := L) y0 (by omega)
      obtain ⟨d, b1, b2, b3⟩ := digits_ok c 4 ((10 : Int) ^ Int.toNat (9 : Int)) (by decide) (by decide) (by decide) (by decide)
      obtain ⟨x1, u1, v1, _⟩ := at_in (xs := d) (k := 1) (by decide) (by omega)
      obtain ⟨x2, u2, v2, _⟩ := at_in (xs := d) (k := 2) (by decide) (by omega)
      obtain ⟨x3, u3, v3, _⟩ := at_in (xs := d) (k := 3) (by decide) (by omega)
      obtain ⟨n1, q1, r1⟩ := number_ok x1 (b3 x1 v1).1 (b3 x1 v1).2
      obtain ⟨n3, q3, r3⟩ := number_ok x3 (b3 x3 v3).1 (b3 x3 v3).2
      obtain ⟨ok, p1, p2, p3⟩ := at_in (xs := o) y0 (by omega)
      have hok := org ok p2
      have es := setI_ok (xs := ws) (j := ok) (y := n1) hok.1 (by omega)
      have w1 : ((ws.set ok.toNat n1).length : Int) = m := by rw [List.length_set]; exact g1
      have w2 : ∀ x ∈ ws.set ok.toNat n1, x.natAbs < 2 ^ 99 := fun x hx => by
        rcases List.mem_or_eq_of_mem_set hx with hx | hx
        · exact g2 x hx
        · rw [hx]; exact r1
      have tk : o.take (pre ++ [y]).length = o.take pre.length ++ [ok] := by
        rw [List.length_append, List.length_singleton, List.take_succ, show pre.length = y.toNat by omega, p3]
        rfl
      show ∃ x', (opt (L2.atI L y) >>= _) = _ ∧ _
      rw [opt_b a1, bind_ok b1, opt_b u1, bind_ok q1, opt_b p1, bind_ok es]
      by_cases hy : 0 < y
      · rw [if_pos hy]
        have hpne : pre ≠ [] := fun e => by rw [e] at hpl; simp at hpl; omega
        have gr : Grown (o.take pre.length) ts := by
          rcases g4 with ⟨e, _⟩ | g
          · exact (hpne e).elim
          · exact g
        obtain ⟨q, k1, k2⟩ := atI_some (xs := [y, (if (2 : Int) < y then (2 : Int) else y), (if (5 : Int) < y then (5 : Int) else y)]) (j := (x2 / 40) % 3) (by omega) (by show (x2 / 40) % 3 < ((3 : Nat) : Int); omega)
        have hq : 1 ≤ q ∧ q ≤ y := by
          have hm := List.mem_of_getElem? k2
          simp only [List.mem_cons, List.not_mem_nil, or_false] at hm
          rcases hm with e | e | e
          · omega
          · by_cases c : (2 : Int) < y
            · rw [if_pos c] at e; omega
            · rw [if_neg c] at e; omega
          · by_cases c : (5 : Int) < y
            · rw [if_pos c] at e; omega
            · rw [if_neg c] at e; omega
        have f0 := Int.emod_nonneg x2 (show q ≠ 0 by omega)
        have f1 := Int.emod_lt_of_pos x2 (show (0 : Int) < q by omega)
        obtain ⟨to, s1, s2, s3⟩ := at_in (xs := o) (k := y - 1 - x2 % q) (by omega) (by omega)
        have hto : to ∈ o.take pre.length := by
          refine List.mem_of_getElem? (i := (y - 1 - x2 % q).toNat) ?_
          rw [List.getElem?_take, if_pos (by omega)]
          exact s3
        have hnt : ok ∉ o.take pre.length := fun hm => by
          obtain ⟨i, hi⟩ := List.mem_iff_getElem?.mp hm
          rw [List.getElem?_take] at hi
          by_cases c : i < pre.length
          · rw [if_pos c] at hi
            have := nd_ix ond hi p3
            omega
          · rw [if_neg c] at hi; exact nomatch hi
        have gm := Grown.more to ok n3 gr hto hnt
        have et : (T3.mk (if ok < to then ok else to) (if ok > to then ok else to) n3 : Tie) = tieOf ok to n3 := by
          have hne : ok ≠ to := fun e => hnt (e ▸ hto)
          unfold tieOf
          by_cases c : ok ≤ to
          · rw [if_pos c, if_pos (by omega), if_neg (by omega)]
          · rw [if_neg c, if_neg (by omega), if_pos (by omega)]
        have glen := gr.len
        rw [List.length_take] at glen
        refine ⟨(ws.set ok.toNat n1, ts ++ [tieOf ok to n3]), ?_, w1, w2, fun z hz => ?_, .inr ?_⟩
        · rw [opt_b u2, opt_b u2, chk_b (cdivW (by decide) (by decide)), chk_b (by decide), opt_b k1, chk_b (by omega), opt_b s1, opt_b p1, opt_b p1, opt_b u3, bind_ok q3, et, bind_ok (appL_ok (show ts.length < 16777216 by omega))]
        · rcases List.mem_append.mp hz with hz | hz
          · exact g3 z hz
          · rw [List.mem_singleton.mp hz, (tieOf_lt (fun e => hnt (by rw [e]; exact hto))).2.2]; exact r3
        · rw [tk]; exact gm
      · rw [if_neg hy]
        have hpe : pre = [] := List.length_eq_zero_iff.mp (by omega)
        refine ⟨(ws.set ok.toNat n1, ts), rfl, w1, w2, g3, .inr ?_⟩
        have hts : ts = [] := by
          rcases g4 with ⟨_, e⟩ | g
          · exact e
          · have := g.len
            rw [hpe] at this
            simp at this
        rw [tk, hts, hpe]
        exact Grown.one ok
  refine ⟨(ws, sortT ts), (bind_ok e3 _).trans rfl, ⟨o, ts, ?_, ?_, rfl⟩, h1, h2, fun z hz => h3 z (sortT_mem.mp hz)⟩
  · rcases h4 with ⟨e, _⟩ | g
    · have : (rangeL 0 m).length = 0 := by rw [e]; rfl
      rw [rangeL_length] at this
      omega
    · rw [rangeL_length, List.take_of_length_le (by omega)] at g
      exact g
  · have h1 : (ws.length : Int) = m := h1
    show o.Perm (rangeL 0 (ws.length : Int))
    rw [h1]
    exact hp
theorem tree_ok (s : List Int) (most : Int) (h1 : 1 ≤ most) (h2 : most ≤ 40) : ∃ t, m_law_tree s most = .ok t ∧ TreeOk t ∧ t.1.length ≤ 40 ∧ (∀ x ∈ t.1, x.natAbs < 2 ^ 99) ∧ ∀ z ∈ t.2, z.c.natAbs < 2 ^ 99 := by
  obtain ⟨c0, e0⟩ := cell_ok s 0 (by decide)
  obtain ⟨c1, e1⟩ := cell_ok s 1 (by decide)
  have fin : ∀ m : Int, 1 ≤ m → m ≤ 40 → ∃ t, (m_law_cell_at s 1 >>= fun r => treeRest s r m) = .ok t ∧ TreeOk t ∧ t.1.length ≤ 40 ∧ (∀ x ∈ t.1, x.natAbs < 2 ^ 99) ∧ ∀ z ∈ t.2, z.c.natAbs < 2 ^ 99 := fun m m1 m2 => by
    obtain ⟨t, h1, h2, h3, h4⟩ := treeRest_ok s c1 m m1 (by omega)
    exact ⟨t, by rw [bind_ok e1]; exact h1, h2, by omega, h4⟩
  unfold m_law_tree
  rw [bind_ok e0, chk_b (by omega), chk_b (cdivW (by omega) (by have : (10 : Int) ^ 40 = 10000000000000000000000000000000000000000 := by decide
                                                                omega)), chk_b (by decide)]
  have k40 : (10 : Int) ^ 40 = 10000000000000000000000000000000000000000 := by decide
  by_cases c : (c0 / most) % 16 = 5
  · rw [if_pos c, chk_b (cdivW (by omega) (by omega)), chk_b (cdivW (by decide) (by decide)), chk_b (by decide)]
    exact fin _ (by omega) (by omega)
  · rw [if_neg c]
    have := Int.emod_nonneg c0 (show most ≠ 0 by omega)
    have := Int.emod_lt_of_pos c0 (show 0 < most by omega)
    exact fin _ (by omega) (by omega)

theorem rangeL_len0 (n : Nat) : (rangeL 0 (n : Int)).length = n := by rw [rangeL_length]; omega

/-! ### what stays true while a loop goes on that comes to its end -/
theorem b_inv {a b : Type} {m : M a} {k : a → M b} {y : b} (h : (m >>= k) = .ok y) : ∃ x, m = .ok x ∧ k x = .ok y := by
  cases m with
  | ok x => exact ⟨x, rfl, h⟩
  | error e => exact nomatch h
theorem o_inv {a b : Type} {o : Option a} {k : a → M b} {y : b} (h : (opt o >>= k) = .ok y) : ∃ x, o = some x ∧ k x = .ok y := by
  obtain ⟨x, h1, h2⟩ := b_inv h
  cases o with
  | some z => exact ⟨z, rfl, by cases h1; exact h2⟩
  | none => exact nomatch h1
theorem c_inv {b : Type} {c : Prop} [Decidable c] {k : Unit → M b} {y : b} (h : (chk c >>= k) = .ok y) : c ∧ k () = .ok y := by
  by_cases z : c
  · rw [chk_b z] at h; exact ⟨z, h⟩
  · unfold chk at h
    rw [if_neg z] at h
    exact nomatch h
theorem a_inv {a b : Type} {xs : List a} {y : a} {k : List a → M b} {z : b} (h : (appL xs y >>= k) = .ok z) : k (xs ++ [y]) = .ok z := by
  unfold appL at h
  by_cases c : xs.length < 16777216
  · rw [if_pos c] at h; exact h
  · rw [if_neg c] at h; exact nomatch h
theorem loopN_keep {i s : Type} {f : i → s → M s} (P : s → Prop) : ∀ {xs : List i} {x x' : s}, (∀ y ∈ xs, ∀ x x', P x → f y x = .ok x' → P x') → P x → loopN f xs x = .ok x' → P x'
  | [], x, x', _, h, e => by cases e; exact h
  | y :: ys, x, x', hs, h, e => by
    have e : (f y x >>= fun x1 => loopN f ys x1) = .ok x' := e
    obtain ⟨x1, e1, e2⟩ := b_inv e
    exact loopN_keep P (fun z hz => hs z (List.mem_cons_of_mem _ hz)) (hs y List.mem_cons_self x x1 h e1) e2
theorem whL_keep {s r : Type} {b : s → M (Ws s r)} (P Q : s → Prop) (hg : ∀ x x', P x → b x = .ok (.go x') → P x') (hs : ∀ x x', P x → b x = .ok (.stop x') → Q x') : ∀ (n : Nat) (x x' : s), P x → whL b n x = .ok (.nx x') → Q x'
  | 0, _, _, _, e => nomatch e
  | n + 1, x, x', h, e => by
    have e : (b x >>= fun w => match w with
      | .go x' => whL b n x'
      | .stop x' => .ok (.nx x')
      | .rt z => .ok (.rt z)) = .ok (.nx x') := e
    obtain ⟨w, e1, e2⟩ := b_inv e
    cases w with
    | go x1 => exact whL_keep P Q hg hs n x1 x' (hg x x1 h e1) e2
    | stop x1 =>
      have e2 : Except.ok (Fl.nx x1 : Fl s r) = (Except.ok (.nx x') : M (Fl s r)) := e2
      injection e2 with e2
      injection e2 with e2
      rw [← e2]
      exact hs x x1 h e1
    | rt z => exact nomatch e2

/-! a mirror, for laws that lack it -/
def m_lengths_of (x_tree : ((List Int) × (List (T3 Int Int Int)))) : M ((List ((Int × Int) × Int))) :=
loopN (fun (y19 : (T3 Int Int Int)) (st30 : (List ((Int × Int) × Int))) =>
putD st30 ((y19.a, y19.b).1, (y19.a, y19.b).2) y19.c >>= fun z64 =>
putD z64 ((y19.b, y19.a).1, (y19.b, y19.a).2) y19.c >>= fun z82 =>
.ok z82) x_tree.2 ([] : (List ((Int × Int) × Int))) >>= fun st88 =>
.ok st88

theorem dPut_new {κ β : Type} [DecidableEq κ] {xs : List (κ × β)} {k : κ} {y : β} (h : ∀ p ∈ xs, p.1 ≠ k) : dPut xs k y = xs ++ [(k, y)] := by
  unfold dPut
  rw [if_neg]
  intro z
  obtain ⟨p, hp, e⟩ := List.any_eq_true.mp z
  exact h p hp (of_decide_eq_true e)

def lenOf (ts : List Tie) : List ((Int × Int) × Int) := ts.flatMap fun t => [((t.a, t.b), t.c), ((t.b, t.a), t.c)]
theorem lenOf_mem {ts : List Tie} {p : (Int × Int) × Int} : p ∈ lenOf ts ↔ ∃ t ∈ ts, p = ((t.a, t.b), t.c) ∨ p = ((t.b, t.a), t.c) := by
  unfold lenOf
  simp [List.mem_flatMap]
theorem lenOf_len : ∀ ts : List Tie, (lenOf ts).length = 2 * ts.length
  | [] => rfl
  | t :: ts => by
    show (lenOf ts).length + 1 + 1 = 2 * (ts.length + 1)
    rw [lenOf_len ts]
    omega
theorem grown_pairs {ps : List Int} {ts : List Tie} (g : Grown ps ts) : (ts.map fun x => (x.a, x.b)).Nodup := by
  induction g with
  | one p => exact List.nodup_nil
  | @more ps ts q p c g hq hp ih =>
    rw [List.map_append, List.nodup_append]
    refine ⟨ih, by simp, fun x hx y hy e => ?_⟩
    obtain ⟨t, ht, rfl⟩ := List.mem_map.mp hx
    rw [List.map_singleton, List.mem_singleton] at hy
    have hpq : p ≠ q := fun z => hp (z ▸ hq)
    obtain ⟨h1, h2, _⟩ := tieOf_lt (c := c) hpq
    obtain ⟨i1, i2, _⟩ := g.in t ht
    rw [hy] at e
    injection e with e1 e2
    rcases h2 with ⟨a, b⟩ | ⟨a, b⟩
    · rw [e1, a] at i1; exact hp i1
    · rw [e2, b] at i2; exact hp i2
theorem tree_pairs {t : Tr} (h : TreeOk t) : (t.2.map fun x => (x.a, x.b)).Nodup := by
  obtain ⟨o, ts, g, _, e⟩ := h.ex
  rw [e]
  exact ((sortT_perm ts).map _).nodup_iff.mpr (grown_pairs g)
theorem lengths_ok (t : Tr) (ht : TreeOk t) (hn : t.1.length ≤ 1000000) : m_lengths_of t = .ok (lenOf t.2) := by
  have hlen := ht.len
  have nd := tree_pairs ht
  obtain ⟨st, e1, e2⟩ := loopN_run (f := fun (y19 : (T3 Int Int Int)) (st30 : (List ((Int × Int) × Int))) =>
    putD st30 ((y19.a, y19.b).1, (y19.a, y19.b).2) y19.c >>= fun z64 =>
    putD z64 ((y19.b, y19.a).1, (y19.b, y19.a).2) y19.c >>= fun z82 =>
    (.ok z82 : M _)) (all := t.2) (x := []) (fun pre st => st = lenOf pre) rfl fun pre y post st ea es => by
      subst es
      have hm : ∀ x ∈ pre, x ∈ t.2 := fun x hx => by rw [ea]; exact List.mem_append_left _ hx
      have hy := ht.tie y (by rw [ea]; simp)
      have hlp : (lenOf pre).length = 2 * pre.length := lenOf_len pre
      have hpl : pre.length + 1 ≤ t.2.length := by
        rw [ea, List.length_append, List.length_cons]
        omega
      have n1 : ∀ x ∈ pre, ¬ (x.a = y.a ∧ x.b = y.b) := fun x hx ⟨z1, z2⟩ => by
        rw [ea, List.map_append, List.map_cons, List.nodup_append] at nd
        exact nd.2.2 (x.a, x.b) (List.mem_map.mpr ⟨x, hx, rfl⟩) (y.a, y.b) List.mem_cons_self (by rw [z1, z2])
      have k1 : ∀ p ∈ lenOf pre, p.1 ≠ (y.a, y.b) := fun p hp e => by
        obtain ⟨x, hx, h | h⟩ := lenOf_mem.mp hp
        · rw [h] at e; injection e with z1 z2; exact n1 x hx ⟨z1, z2⟩
        · rw [h] at e
          injection e with z1 z2
          have := ht.tie x (hm x hx)
          have z1 : x.b = y.a := z1
          have z2 : x.a = y.b := z2
          omega
      have k2 : ∀ p ∈ lenOf pre ++ [((y.a, y.b), y.c)], p.1 ≠ (y.b, y.a) := fun p hp e => by
        rcases List.mem_append.mp hp with hp | hp
        · obtain ⟨x, hx, h | h⟩ := lenOf_mem.mp hp
          · rw [h] at e
            injection e with z1 z2
            have := ht.tie x (hm x hx)
            have z1 : x.a = y.b := z1
            have z2 : x.b = y.a := z2
            omega
          · rw [h] at e; injection e with z1 z2; exact n1 x hx ⟨z2, z1⟩
        · rw [List.mem_singleton.mp hp] at e
          injection e with z1 z2
          have z1 : y.a = y.b := z1
          omega
      refine ⟨_, ?_, rfl⟩
      show (putD (lenOf pre) (y.a, y.b) y.c >>= fun z64 => putD z64 (y.b, y.a) y.c >>= fun z82 => _) = _
      rw [bind_ok (show putD (lenOf pre) (y.a, y.b) y.c = .ok (lenOf pre ++ [((y.a, y.b), y.c)]) by unfold putD; rw [if_pos (by omega), dPut_new k1])]
      rw [bind_ok (show putD (lenOf pre ++ [((y.a, y.b), y.c)]) (y.b, y.a) y.c = .ok ((lenOf pre ++ [((y.a, y.b), y.c)]) ++ [((y.b, y.a), y.c)]) by unfold putD; rw [if_pos (by rw [List.length_append, List.length_singleton]; omega), dPut_new k2])]
      unfold lenOf
      rw [List.flatMap_append, List.append_assoc]
      rfl
  unfold m_lengths_of
  rw [bind_ok e1, e2]
theorem keys_perm : ∀ ts : List Tie, ((lenOf ts).map (·.1)).Perm (ts.map (fun t => (t.a, t.b)) ++ ts.map (fun t => (t.b, t.a)))
  | [] => .nil
  | t :: ts => by
    show ((t.a, t.b) :: (t.b, t.a) :: (lenOf ts).map (·.1)).Perm ((t.a, t.b) :: (ts.map (fun t => (t.a, t.b)) ++ (t.b, t.a) :: ts.map (fun t => (t.b, t.a))))
    refine .cons _ (((keys_perm ts).cons _).trans List.perm_middle.symm)

/-! ### neighbours -/
def other (p : Int) (t : Tie) : Option Int := if t.a = p then some t.b else if t.b = p then some t.a else none
/-- the neighbours of a place, rising -/
def nearOf (ties : List Tie) (p : Int) : List Int := sortT (ties.filterMap (other p))
def nearAll (n : Nat) (ties : List Tie) : List (List Int) := (List.range n).map fun (i : Nat) => nearOf ties (i : Int)
theorem addAt_ok {fs : List (List Int)} {x y : Int} {l : List Int} (h0 : 0 ≤ x) (h : fs[x.toNat]? = some l) (hl : l.length < 16777216) : addAt fs x y = .ok (fs.set x.toNat (l ++ [y])) := by
  have h1 := (List.getElem?_eq_some_iff.mp h).1
  unfold addAt
  rw [ixN_nat h0 (by omega)]
  show (match fs[x.toNat]? with
    | some x_1 => appL x_1 y >>= fun y => .ok (fs.set x.toNat y)
    | none => bad) = _
  rw [h]
  show (appL l y >>= fun y => (.ok (fs.set x.toNat y) : M _)) = _
  rw [bind_ok (appL_ok hl)]
theorem tied_places_ok (n : Int) (ties : List Tie) (h0 : 0 ≤ n) (h1 : n ≤ 1000000) (hl : ties.length < 16777216) (hv : ∀ t ∈ ties, 0 ≤ t.a ∧ t.a < t.b ∧ t.b < n) : m_tied_places n ties = .ok (nearAll n.toNat ties) := by
  unfold m_tied_places
  rw [chk_b (show okR n from ⟨by omega, h1⟩)]
  obtain ⟨fs, e, h⟩ := loopN_run (f := fun (t : T3 Int Int Int) (fs : List (List Int)) => addAt fs t.a t.b >>= fun f1 => addAt f1 t.b t.a) (all := sortT ties) (x := List.replicate n.toNat [])
    (fun pre fs => fs = (List.range n.toNat).map fun (i : Nat) => pre.filterMap (other (i : Int))) (by
      refine List.ext_getElem? fun i => ?_
      rw [List.getElem?_replicate, List.getElem?_map]
      by_cases hi : i < n.toNat
      · rw [if_pos hi, List.getElem?_range hi]; rfl
      · rw [if_neg hi, List.getElem?_eq_none (by simpa using hi)]; rfl) fun pre t post fs ea hf => by
      subst hf
      have mt : t ∈ ties := sortT_mem.mp (by rw [ea]; simp)
      obtain ⟨a0, ab, bn⟩ := hv t mt
      have plen : pre.length < 16777216 := by
        have := congrArg List.length ea
        rw [sortT_len, List.length_append, List.length_cons] at this
        omega
      have g1 : ((List.range n.toNat).map fun (i : Nat) => pre.filterMap (other (i : Int)))[t.a.toNat]? = some (pre.filterMap (other t.a)) := by
        rw [List.getElem?_map, List.getElem?_range (by omega)]
        show some (pre.filterMap (other ((t.a.toNat : Nat) : Int))) = _
        rw [Int.toNat_of_nonneg a0]
      have l1 : (pre.filterMap (other t.a)).length < 16777216 := Nat.lt_of_le_of_lt (List.length_filterMap_le _ _) plen
      have g2 : (((List.range n.toNat).map fun (i : Nat) => pre.filterMap (other (i : Int))).set t.a.toNat (pre.filterMap (other t.a) ++ [t.b]))[t.b.toNat]? = some (pre.filterMap (other t.b)) := by
        rw [List.getElem?_set_ne (by omega), List.getElem?_map, List.getElem?_range (by omega)]
        show some (pre.filterMap (other ((t.b.toNat : Nat) : Int))) = _
        rw [Int.toNat_of_nonneg (by omega)]
      have l2 : (pre.filterMap (other t.b)).length < 16777216 := Nat.lt_of_le_of_lt (List.length_filterMap_le _ _) plen
      refine ⟨_, by rw [bind_ok (addAt_ok a0 g1 l1)]; exact addAt_ok (by omega) g2 l2, ?_⟩
      refine List.ext_getElem? fun i => ?_
      rw [List.getElem?_map]
      by_cases hi : i < n.toNat
      · rw [List.getElem?_range hi]
        show _ = some ((pre ++ [t]).filterMap (other (i : Int)))
        rw [List.filterMap_append]
        by_cases hb : t.b.toNat = i
        · subst hb
          rw [List.getElem?_set_self (by simpa using hi)]
          have e1 : other ((t.b.toNat : Nat) : Int) t = some t.a := by
            unfold other
            rw [if_neg (by omega), if_pos (by omega)]
          have e2 : ((t.b.toNat : Nat) : Int) = t.b := Int.toNat_of_nonneg (by omega)
          rw [List.filterMap_cons, e1, List.filterMap_nil, e2]
        · rw [List.getElem?_set_ne hb]
          by_cases ha : t.a.toNat = i
          · subst ha
            rw [List.getElem?_set_self (by simpa using hi)]
            have e1 : other ((t.a.toNat : Nat) : Int) t = some t.b := by
              unfold other
              rw [if_pos (by omega)]
            have e2 : ((t.a.toNat : Nat) : Int) = t.a := Int.toNat_of_nonneg a0
            rw [List.filterMap_cons, e1, List.filterMap_nil, e2]
          · rw [List.getElem?_set_ne ha, List.getElem?_map, List.getElem?_range hi]
            have e1 : other (i : Int) t = none := by
              unfold other
              rw [if_neg (by omega), if_neg (by omega)]
            rw [List.filterMap_cons, e1, List.filterMap_nil, List.append_nil]
            rfl
      · have z : (List.range n.toNat)[i]? = none := List.getElem?_eq_none (by simpa using hi)
        rw [z]
        show _ = none
        refine List.getElem?_eq_none ?_
        rw [List.length_set, List.length_set, List.length_map, List.length_range]
        omega
  rw [bind_ok e, h]
  refine congrArg Except.ok ?_
  unfold nearAll
  rw [List.map_map]
  refine List.map_congr_left fun i _ => ?_
  show sortT ((sortT ties).filterMap (other (i : Int))) = nearOf ties (i : Int)
  exact sortT_eq ((sortT_perm ties).filterMap _)
theorem nearAll_at {n : Nat} {ties : List Tie} {p : Int} (h0 : 0 ≤ p) (h : p < n) : L2.atI (nearAll n ties) p = some (nearOf ties p) := by
  refine atI_of h0 ?_
  unfold nearAll
  rw [List.getElem?_map, List.getElem?_range (by omega)]
  show some (nearOf ties ((p.toNat : Nat) : Int)) = _
  rw [Int.toNat_of_nonneg h0]

theorem need_place_ok (t : Tr) (p : Int) (h0 : 0 ≤ p) (h : p < (t.1.length : Int)) : m_need_place t p = .ok () := by
  unfold m_need_place
  rw [if_pos h0, if_pos h]
theorem tied_to_ok (t : Tr) (ht : TreeOk t) (hn : t.1.length ≤ 1000000) (p : Int) (h0 : 0 ≤ p) (h : p < (t.1.length : Int)) : m_tied_to t p = .ok (nearOf t.2 p) := by
  unfold m_tied_to
  have := ht.len
  rw [bind_ok (need_place_ok t p h0 h), bind_ok (tied_places_ok (t.1.length : Int) t.2 (by omega) (by omega) (by omega) ht.tie), opt_b (nearAll_at h0 (by omega))]
theorem nearOf_len (ts : List Tie) (p : Int) : (nearOf ts p).length ≤ ts.length := by
  unfold nearOf
  rw [sortT_len]
  exact List.length_filterMap_le _ _

theorem whL_run {s r : Type} {b : s → M (Ws s r)} (P : s → Prop) (μ : s → Nat) (Qf : s → Prop) (step : ∀ x, P x → (∃ x', b x = .ok (.go x') ∧ P x' ∧ μ x' < μ x) ∨ (∃ x', b x = .ok (.stop x') ∧ Qf x')) : ∀ (n : Nat) (x : s), P x → μ x < n → ∃ x', whL b n x = .ok (.nx x') ∧ Qf x'
  | 0, x, _, h => absurd h (Nat.not_lt_zero _)
  | n + 1, x, p, h => by
    rcases step x p with ⟨x', e, p', l⟩ | ⟨x', e, q⟩
    · obtain ⟨x2, e2, q2⟩ := whL_run P μ Qf step n x' p' (by omega)
      refine ⟨x2, ?_, q2⟩
      show (b x >>= _) = _
      rw [bind_ok e]
      exact e2
    · refine ⟨x', ?_, q⟩
      show (b x >>= _) = _
      rw [bind_ok e]
theorem nd_sub_len {a : Type} [DecidableEq a] : ∀ {l m : List a}, l.Nodup → (∀ x ∈ l, x ∈ m) → l.length ≤ m.length
  | [], _, _, _ => Nat.zero_le _
  | x :: l, m, nd, h => by
    have hx := h x List.mem_cons_self
    obtain ⟨n1, n2⟩ := List.nodup_cons.mp nd
    have := nd_sub_len (l := l) (m := m.erase x) n2 fun y hy => (List.mem_erase_of_ne fun e => n1 (by rw [← e]; exact hy)).mpr (h y (List.mem_cons_of_mem _ hy))
    rw [List.length_erase_of_mem hx] at this
    have hp := List.length_pos_of_mem hx
    rw [List.length_cons]
    omega
theorem nearOf_mem {ts : List Tie} {x y : Int} (h : ∀ t ∈ ts, t.a < t.b) : y ∈ nearOf ts x ↔ ∃ t ∈ ts, (t.a = x ∧ t.b = y) ∨ (t.b = x ∧ t.a = y) := by
  unfold nearOf
  rw [sortT_mem, List.mem_filterMap]
  constructor
  · rintro ⟨t, ht, e⟩
    unfold other at e
    by_cases ha : t.a = x
    · rw [if_pos ha] at e
      exact ⟨t, ht, .inl ⟨ha, Option.some.inj e⟩⟩
    · rw [if_neg ha] at e
      by_cases hb : t.b = x
      · rw [if_pos hb] at e
        exact ⟨t, ht, .inr ⟨hb, Option.some.inj e⟩⟩
      · rw [if_neg hb] at e; cases e
  · rintro ⟨t, ht, ⟨ha, hb⟩ | ⟨hb, ha⟩⟩
    · refine ⟨t, ht, ?_⟩
      unfold other
      rw [if_pos ha, hb]
    · refine ⟨t, ht, ?_⟩
      have := h t ht
      unfold other
      rw [if_neg (by omega), if_pos hb, ha]
/-- what holds of one place and goes over ties holds of all -/
theorem grown_all {ps : List Int} {ts : List Tie} (g : Grown ps ts) (S : Int → Prop) (hS : ∀ t ∈ ts, S t.a ↔ S t.b) : (∃ x ∈ ps, S x) → ∀ x ∈ ps, S x := by
  induction g with
  | one p =>
    rintro ⟨x, hx, h⟩ y hy
    rw [List.mem_singleton.mp hx] at h
    rw [List.mem_singleton.mp hy]
    exact h
  | @more ps ts q p c g hq hp ih =>
    have ih := ih fun t ht => hS t (List.mem_append_left _ ht)
    have hpq : p ≠ q := fun z => hp (z ▸ hq)
    have hl := hS (tieOf p q c) (by simp)
    obtain ⟨_, h2, _⟩ := tieOf_lt (c := c) hpq
    have hpq2 : S p ↔ S q := by
      rcases h2 with ⟨a, b⟩ | ⟨a, b⟩
      · rw [a, b] at hl; exact hl
      · rw [a, b] at hl; exact hl.symm
    rintro ⟨x, hx, h⟩
    have hall : ∀ y ∈ ps, S y := by
      rcases List.mem_append.mp hx with hx | hx
      · exact ih ⟨x, hx, h⟩
      · rw [List.mem_singleton.mp hx] at h
        exact ih ⟨q, hq, hpq2.mp h⟩
    intro y hy
    rcases List.mem_append.mp hy with hy | hy
    · exact hall y hy
    · rw [List.mem_singleton.mp hy]
      exact hpq2.mpr (hall q hq)
theorem tree_all {t : Tr} (ht : TreeOk t) (S : Int → Prop) (hS : ∀ x ∈ t.2, S x.a ↔ S x.b) (x : Int) (x0 : 0 ≤ x) (x1 : x < (t.1.length : Int)) (h : S x) : ∀ y, 0 ≤ y → y < (t.1.length : Int) → S y := by
  obtain ⟨ps, ts, g, p, e⟩ := ht.ex
  rw [e] at hS
  intro y y0 y1
  exact grown_all g S (fun t ht => hS t (sortT_mem.mpr ht)) ⟨x, p.mem_iff.mpr (rangeL_mem.mpr ⟨x0, x1⟩), h⟩ y (p.mem_iff.mpr (rangeL_mem.mpr ⟨y0, y1⟩))
theorem nearAll_len (n : Nat) (ts : List Tie) : (nearAll n ts).length = n := by unfold nearAll; simp

/-! ### which places lie in a branch: m a b x is 1 where x hangs at b seen from a -/
def nbr (ts : List Tie) (b : Int) : List Int := ts.filterMap (other b)
theorem other_tie {p q c b : Int} (h : p ≠ q) : other b (tieOf p q c) = if b = p then some q else if b = q then some p else none := by
  unfold other tieOf
  by_cases hl : p ≤ q
  · rw [if_pos hl]
    show (if p = b then some q else if q = b then some p else none) = _
    by_cases h1 : b = p
    · rw [if_pos h1.symm, if_pos h1]
    · rw [if_neg (fun z => h1 z.symm), if_neg h1]
      by_cases h2 : b = q
      · rw [if_pos h2.symm, if_pos h2]
      · rw [if_neg (fun z => h2 z.symm), if_neg h2]
  · rw [if_neg hl]
    show (if q = b then some p else if p = b then some q else none) = _
    by_cases h1 : b = p
    · rw [if_neg (by omega), if_pos h1.symm, if_pos h1]
    · rw [if_neg h1]
      by_cases h2 : b = q
      · rw [if_pos h2.symm, if_pos h2]
      · rw [if_neg (fun z => h2 z.symm), if_neg (fun z => h1 z.symm), if_neg h2]
theorem nbr_snoc (ts : List Tie) {p q c b : Int} (h : p ≠ q) : nbr (ts ++ [tieOf p q c]) b = nbr ts b ++ (if b = p then [q] else if b = q then [p] else []) := by
  unfold nbr
  rw [List.filterMap_append, List.filterMap_cons, other_tie h, List.filterMap_nil]
  by_cases h1 : b = p
  · rw [if_pos h1, if_pos h1]
  · rw [if_neg h1, if_neg h1]
    by_cases h2 : b = q
    · rw [if_pos h2, if_pos h2]
    · rw [if_neg h2, if_neg h2]
theorem nbr_in {ps : List Int} {ts : List Tie} (g : Grown ps ts) {a b : Int} (h : a ∈ nbr ts b) : a ∈ ps ∧ b ∈ ps ∧ a ≠ b := by
  unfold nbr at h
  obtain ⟨t, ht, e⟩ := List.mem_filterMap.mp h
  obtain ⟨h1, h2, h3⟩ := g.in t ht
  unfold other at e
  by_cases ha : t.a = b
  · rw [if_pos ha] at e
    have e := Option.some.inj e
    rw [← e, ← ha]
    exact ⟨h2, h1, by omega⟩
  · rw [if_neg ha] at e
    by_cases hb : t.b = b
    · rw [if_pos hb] at e
      have e := Option.some.inj e
      rw [← e, ← hb]
      exact ⟨h1, h2, by omega⟩
    · rw [if_neg hb] at e; cases e
def sumF (l : List Int) (f : Int → Nat) : Nat := (l.map f).sum
theorem sumF_app (l m : List Int) (f : Int → Nat) : sumF (l ++ m) f = sumF l f + sumF m f := by unfold sumF; rw [List.map_append, List.sum_append]
theorem sumF_congr {l : List Int} {f g : Int → Nat} (h : ∀ x ∈ l, f x = g x) : sumF l f = sumF l g := by unfold sumF; rw [List.map_congr_left h]
theorem sumF_one (x : Int) (f : Int → Nat) : sumF [x] f = f x := by unfold sumF; simp
theorem sumF_nil (f : Int → Nat) : sumF [] f = 0 := rfl
def ind (x y : Int) : Nat := if x = y then 1 else 0
structure Wt (ps : List Int) (ts : List Tie) (m : Int → Int → Int → Nat) : Prop where
  one : ∀ a b x, a ∈ nbr ts b → x ∈ ps → m a b x = ind x b + sumF ((nbr ts b).filter fun c => decide (c ≠ a)) (fun c => m b c x)
  all : ∀ q x, q ∈ ps → x ∈ ps → ind x q + sumF (nbr ts q) (fun c => m q c x) = 1
def stepM (m : Int → Int → Int → Nat) (p q : Int) (a b x : Int) : Nat :=
  if a = q ∧ b = p then (if x = p then 1 else 0) else if a = p ∧ b = q then (if x = p then 0 else 1) else if x = p then m a b q else m a b x
theorem stepM_old {m : Int → Int → Int → Nat} {p q a b x : Int} (h1 : ¬ (a = q ∧ b = p)) (h2 : ¬ (a = p ∧ b = q)) : stepM m p q a b x = m a b (if x = p then q else x) := by
  unfold stepM
  rw [if_neg h1, if_neg h2]
  split <;> rfl
theorem weights {ps : List Int} {ts : List Tie} (g : Grown ps ts) : ∃ m, Wt ps ts m := by
  induction g with
  | one p =>
    refine ⟨fun _ _ _ => 0, ⟨fun a b x h => (nomatch (show a ∈ ([] : List Int) from h)), fun q x hq hx => ?_⟩⟩
    rw [List.mem_singleton.mp hq, List.mem_singleton.mp hx]
    show ind p p + 0 = 1
    unfold ind
    rw [if_pos rfl]
  | @more ps ts q p c g hq hp ih =>
    obtain ⟨m, M⟩ := ih
    have hpq : p ≠ q := fun z => hp (z ▸ hq)
    have nin : ∀ {a b}, a ∈ nbr ts b → a ≠ p ∧ b ≠ p := fun {a b} h => by
      obtain ⟨h1, h2, _⟩ := nbr_in g h
      exact ⟨fun z => hp (z ▸ h1), fun z => hp (z ▸ h2)⟩
    have np : nbr ts p = [] := List.eq_nil_iff_forall_not_mem.mpr fun a h => (nin h).2 rfl
    -- where x stands: the new place stands where its neighbour stands
    have back : ∀ x, x ∈ ps ++ [p] → (if x = p then q else x) ∈ ps := fun x hx => by
      by_cases hxp : x = p
      · rw [if_pos hxp]; exact hq
      · rw [if_neg hxp]
        rcases List.mem_append.mp hx with z | z
        · exact z
        · exact (hxp (List.mem_singleton.mp z)).elim
    have oldS : ∀ (l : List Int) (b x : Int), b ≠ p → (∀ c ∈ l, c ≠ p) → sumF l (fun c => stepM m p q b c x) = sumF l (fun c => m b c (if x = p then q else x)) := fun l b x hb hl =>
      sumF_congr fun c hc => stepM_old (fun z => hl c hc z.2) (fun z => hb z.1)
    have indx : ∀ x b : Int, b ≠ p → b ≠ q → ind x b = ind (if x = p then q else x) b := fun x b hb hbq => by
      by_cases hxp : x = p
      · rw [if_pos hxp, hxp]
        unfold ind
        rw [if_neg (fun z => hb z.symm), if_neg (fun z => hbq z.symm)]
      · rw [if_neg hxp]
    have memf : ∀ (l : List Int) (a : Int), (∀ c ∈ l, c ≠ p) → ∀ c ∈ l.filter (fun c => decide (c ≠ a)), c ≠ p := fun l a hl c hc => hl c (List.mem_filter.mp hc).1
    have lp : ∀ b, ∀ c ∈ nbr ts b, c ≠ p := fun b c hc => (nin hc).1
    refine ⟨stepM m p q, ⟨fun a b x ha hx => ?_, fun q0 x hq0 hx => ?_⟩⟩
    · rw [nbr_snoc ts hpq] at ha ⊢
      have hb' := back x hx
      by_cases hbp : b = p
      · subst hbp
        rw [np, if_pos rfl] at ha ⊢
        have ha : a = q := List.mem_singleton.mp ha
        subst ha
        have : ([a].filter fun c => decide (c ≠ a)) = [] := by simp
        show stepM m b a a b x = ind x b + sumF (([] ++ [a]).filter fun c => decide (c ≠ a)) _
        rw [List.nil_append, this, sumF_nil]
        unfold stepM ind
        rw [if_pos ⟨rfl, rfl⟩]
        rfl
      · rw [if_neg hbp] at ha ⊢
        by_cases hbq : b = q
        · subst hbq
          rw [if_pos rfl] at ha ⊢
          rw [List.filter_append, sumF_app]
          by_cases hap : a = p
          · subst hap
            have f1 : ((nbr ts b).filter fun c => decide (c ≠ a)) = nbr ts b := List.filter_eq_self.mpr fun c hc => decide_eq_true (lp b c hc)
            have f2 : ([a].filter fun c => decide (c ≠ a)) = [] := by simp
            rw [f1, f2, sumF_nil, oldS _ _ _ hbp (lp b)]
            have al := M.all b _ hq hb'
            unfold stepM
            rw [if_neg (fun z => hbp z.2), if_pos ⟨rfl, rfl⟩]
            by_cases hxp : x = a
            · rw [if_pos hxp] at al ⊢
              rw [if_pos hxp]
              have i1 : ind b b = 1 := if_pos rfl
              have i2 : ind x b = 0 := if_neg (fun z => hbp (by rw [← z, hxp]))
              rw [i1] at al
              rw [i2]
              omega
            · rw [if_neg hxp] at al ⊢
              rw [if_neg hxp]
              omega
          · have ha' : a ∈ nbr ts b := by
              rcases List.mem_append.mp ha with z | z
              · exact z
              · exact (hap (List.mem_singleton.mp z)).elim
            have f2 : ([p].filter fun c => decide (c ≠ a)) = [p] := List.filter_eq_self.mpr fun c hc => by rw [List.mem_singleton.mp hc]; exact decide_eq_true (fun z => hap z.symm)
            rw [f2, sumF_one, oldS _ _ _ hbp (memf _ _ (lp b)), stepM_old (fun z => hbp z.2) (fun z => hap z.1)]
            have on := M.one a b _ ha' hb'
            have sp : stepM m p b b p x = if x = p then 1 else 0 := if_pos ⟨rfl, rfl⟩
            rw [sp, on]
            by_cases hxp : x = p
            · rw [if_pos hxp, if_pos hxp]
              have i1 : ind b b = 1 := if_pos rfl
              have i2 : ind x b = 0 := if_neg (fun z => hbp (by rw [← z, hxp]))
              rw [i1, i2]
              omega
            · rw [if_neg hxp, if_neg hxp]
              omega
        · rw [if_neg hbq, List.append_nil] at ha ⊢
          have hap := (nin ha).1
          rw [oldS _ _ _ hbp (memf _ _ (lp b)), stepM_old (fun z => hbp z.2) (fun z => hap z.1), indx x b hbp hbq]
          exact M.one a b _ ha hb'
    · rw [nbr_snoc ts hpq]
      have hb' := back x hx
      by_cases hbp : q0 = p
      · subst hbp
        rw [np, if_pos rfl, List.nil_append, sumF_one]
        have sp : stepM m q0 q q0 q x = if x = q0 then 0 else 1 := by
          unfold stepM
          rw [if_neg (fun z => hpq z.1), if_pos ⟨rfl, rfl⟩]
        rw [sp]
        unfold ind
        split <;> rfl
      · rw [if_neg hbp]
        have hq0' : q0 ∈ ps := by
          rcases List.mem_append.mp hq0 with z | z
          · exact z
          · exact (hbp (List.mem_singleton.mp z)).elim
        have al := M.all q0 _ hq0' hb'
        rw [sumF_app, oldS _ _ _ hbp (lp q0)]
        by_cases hbq : q0 = q
        · subst hbq
          rw [if_pos rfl, sumF_one]
          have sp : stepM m p q0 q0 p x = if x = p then 1 else 0 := if_pos ⟨rfl, rfl⟩
          rw [sp]
          by_cases hxp : x = p
          · rw [if_pos hxp] at al ⊢
            rw [if_pos hxp]
            have i1 : ind q0 q0 = 1 := if_pos rfl
            have i2 : ind x q0 = 0 := if_neg (fun z => hbp (by rw [← z, hxp]))
            rw [i1] at al
            rw [i2]
            omega
          · rw [if_neg hxp] at al ⊢
            rw [if_neg hxp]
            omega
        · rw [if_neg hbq, sumF_nil, indx x q0 hbp hbq]
          omega

theorem sumF_add (l : List Int) (f g : Int → Nat) : sumF l (fun x => f x + g x) = sumF l f + sumF l g := by
  induction l with
  | nil => rfl
  | cons x l ih =>
    show (f x + g x) + sumF l _ = (f x + sumF l f) + (g x + sumF l g)
    rw [ih]
    omega
theorem sumF_zero (l : List Int) : sumF l (fun _ => 0) = 0 := by
  induction l with
  | nil => rfl
  | cons x l ih => show 0 + sumF l _ = 0; rw [ih]
theorem sumF_swap (l k : List Int) (f : Int → Int → Nat) : sumF l (fun x => sumF k (fun c => f c x)) = sumF k (fun c => sumF l (fun x => f c x)) := by
  induction k with
  | nil => exact sumF_zero l
  | cons c k ih =>
    show sumF l (fun x => f c x + sumF k (fun c => f c x)) = sumF l (fun x => f c x) + sumF k (fun c => sumF l (fun x => f c x))
    rw [sumF_add, ih]
theorem sumF_ind {l : List Int} (nd : l.Nodup) {b : Int} (h : b ∈ l) : sumF l (fun x => ind x b) = 1 := by
  induction l with
  | nil => cases h
  | cons x l ih =>
    obtain ⟨n1, n2⟩ := List.nodup_cons.mp nd
    show ind x b + sumF l (fun x => ind x b) = 1
    by_cases e : x = b
    · have : sumF l (fun x => ind x b) = sumF l (fun _ => 0) := sumF_congr fun y hy => if_neg (fun z => n1 (by rw [e, ← z]; exact hy))
      rw [this, sumF_zero]
      unfold ind
      rw [if_pos e]
    · have hb : b ∈ l := by
        rcases List.mem_cons.mp h with z | z
        · exact (e z.symm).elim
        · exact z
      rw [ih n2 hb]
      unfold ind
      rw [if_neg e]
theorem sumF_le {l : List Int} {f : Int → Nat} (h : ∀ x ∈ l, f x ≤ 1) : sumF l f ≤ l.length := by
  induction l with
  | nil => exact Nat.le_refl _
  | cons x l ih =>
    show f x + sumF l f ≤ l.length + 1
    have := h x List.mem_cons_self
    have := ih fun y hy => h y (List.mem_cons_of_mem _ hy)
    omega
theorem sumF_mem {l : List Int} {f : Int → Nat} {x : Int} (h : x ∈ l) : f x ≤ sumF l f := by
  induction l with
  | nil => cases h
  | cons y l ih =>
    show f x ≤ f y + sumF l f
    rcases List.mem_cons.mp h with z | z
    · rw [z]; omega
    · have := ih z
      omega
theorem sumF_perm {l k : List Int} (h : l.Perm k) (f : Int → Nat) : sumF l f = sumF k f := by
  unfold sumF
  exact (h.map f).sum_nat
theorem nbr_sym {ts : List Tie} {a b : Int} (hv : ∀ t ∈ ts, t.a < t.b) (h : a ∈ nbr ts b) : b ∈ nbr ts a := by
  unfold nbr at h ⊢
  obtain ⟨t, ht, e⟩ := List.mem_filterMap.mp h
  refine List.mem_filterMap.mpr ⟨t, ht, ?_⟩
  have := hv t ht
  unfold other at e ⊢
  by_cases ha : t.a = b
  · rw [if_pos ha] at e
    have e := Option.some.inj e
    rw [if_neg (by omega), if_pos e, ha]
  · rw [if_neg ha] at e
    by_cases hb : t.b = b
    · rw [if_pos hb] at e
      have e := Option.some.inj e
      rw [if_pos e, hb]
    · rw [if_neg hb] at e; cases e
/-- how many places hang at b seen from a -/
theorem weight_tree {t : Tr} (ht : TreeOk t) : ∃ w : Int → Int → Nat, ∀ a b, a ∈ nearOf t.2 b → w a b = 1 + sumF ((nearOf t.2 b).filter fun c => decide (c ≠ a)) (w b) ∧ w a b ≤ t.1.length := by
  obtain ⟨ps, ts, g, hp, e⟩ := ht.ex
  obtain ⟨m, M⟩ := weights g
  have nd := g.nd
  have hpl := hp.length_eq
  rw [rangeL_length] at hpl
  have hn : ps.length = t.1.length := by omega
  have hv : ∀ x ∈ ts, x.a < x.b := fun x hx => (g.in x hx).2.2
  have perm : ∀ b, (nearOf t.2 b).Perm (nbr ts b) := fun b => by
    unfold nearOf nbr
    rw [e]
    exact (sortT_perm _).trans ((sortT_perm ts).filterMap _)
  refine ⟨fun a b => sumF ps (fun x => m a b x), fun a b ha => ?_⟩
  have ha' : a ∈ nbr ts b := (perm b).mem_iff.mp ha
  obtain ⟨h1, h2, h3⟩ := nbr_in g ha'
  constructor
  · have e1 : sumF ps (fun x => m a b x) = sumF ps (fun x => ind x b + sumF ((nbr ts b).filter fun c => decide (c ≠ a)) (fun c => m b c x)) := sumF_congr fun x hx => M.one a b x ha' hx
    show sumF ps (fun x => m a b x) = _
    rw [e1, sumF_add, sumF_ind nd h2, sumF_swap]
    rw [sumF_perm ((perm b).filter _)]
  · rw [← hn]
    refine sumF_le fun x hx => ?_
    have := M.all a x h1 hx
    have hb := nbr_sym hv ha'
    have := sumF_mem (f := fun c => m a c x) hb
    omega

/-! ### ways -/
def Step (t : Tr) (x y c : Int) : Prop := ∃ z ∈ t.2, ((z.a = x ∧ z.b = y) ∨ (z.a = y ∧ z.b = x)) ∧ z.c = c
theorem whL_runN {s r : Type} {b : s → M (Ws s r)} (P : Nat → s → Prop) (Qf : s → Prop) (step : ∀ m x, P m x → (∃ x' m', m' < m ∧ b x = .ok (.go x') ∧ P m' x') ∨ (∃ x', b x = .ok (.stop x') ∧ Qf x')) : ∀ (n m : Nat) (x : s), P m x → m < n → ∃ x', whL b n x = .ok (.nx x') ∧ Qf x'
  | 0, m, x, _, h => absurd h (Nat.not_lt_zero _)
  | n + 1, m, x, p, h => by
    rcases step m x p with ⟨x', m', l, e, p'⟩ | ⟨x', e, q⟩
    · obtain ⟨x2, e2, q2⟩ := whL_runN P Qf step n m' x' p' (by omega)
      refine ⟨x2, ?_, q2⟩
      show (b x >>= _) = _
      rw [bind_ok e]
      exact e2
    · refine ⟨x', ?_, q⟩
      show (b x >>= _) = _
      rw [bind_ok e]
theorem dGet_mem {κ β : Type} [DecidableEq κ] [Py β] : ∀ {xs : List (κ × β)} {k : κ} {v : β}, (xs.map (·.1)).Nodup → (k, v) ∈ xs → dGet xs k = some v
  | [], _, _, _, h => by cases h
  | p :: xs, k, v, nd, h => by
    rw [List.map_cons, List.nodup_cons] at nd
    rcases List.mem_cons.mp h with e | h
    · rw [← e]; exact dGet_pos rfl
    · rw [dGet_neg (fun e => nd.1 (List.mem_map.mpr ⟨(k, v), h, e.symm⟩))]
      exact dGet_mem nd.2 h
theorem dHas_iff {κ β : Type} [DecidableEq κ] [Py β] : ∀ {xs : List (κ × β)} {k : κ}, dHas xs k = true ↔ k ∈ xs.map (·.1)
  | [], k => by simp [dHas, dGet]
  | p :: xs, k => by
    rw [List.map_cons, List.mem_cons]
    unfold dHas
    by_cases e : p.1 = k
    · rw [dGet_pos e]; simp [e]
    · rw [dGet_neg e]
      have := dHas_iff (xs := xs) (k := k)
      unfold dHas at this
      rw [this]
      constructor
      · exact .inr
      · rintro (z | z)
        · exact (e z.symm).elim
        · exact z
theorem lenOf_nd {t : Tr} (ht : TreeOk t) : ((lenOf t.2).map (·.1)).Nodup := by
  refine (keys_perm t.2).nodup_iff.mpr (List.nodup_append.mpr ⟨tree_pairs ht, ?_, ?_⟩)
  · have h : (t.2.map fun x => (x.b, x.a)) = (t.2.map fun x => (x.a, x.b)).map fun p => (p.2, p.1) := by rw [List.map_map]; rfl
    rw [h]
    refine List.Pairwise.map _ ?_ (tree_pairs ht)
    intro a b hab e
    injection e with e1 e2
    exact hab (Prod.ext e2 e1)
  · rintro p hp q hq e
    subst e
    obtain ⟨x, hx, e1⟩ := List.mem_map.mp hp
    obtain ⟨y, hy, e2⟩ := List.mem_map.mp hq
    have h1 := ht.tie x hx
    have h2 := ht.tie y hy
    rw [← e2] at e1
    injection e1 with a1 a2
    omega
theorem step_len {t : Tr} (ht : TreeOk t) {x y c : Int} (h : Step t x y c) : dGet (lenOf t.2) (x, y) = some c := by
  obtain ⟨z, hz, ⟨a, b⟩ | ⟨a, b⟩, e⟩ := h
  · exact dGet_mem (lenOf_nd ht) (lenOf_mem.mpr ⟨z, hz, .inl (by rw [a, b, e])⟩)
  · exact dGet_mem (lenOf_nd ht) (lenOf_mem.mpr ⟨z, hz, .inr (by rw [a, b, e])⟩)
theorem step_rg {t : Tr} (ht : TreeOk t) {x y c : Int} (h : Step t x y c) : (0 ≤ x ∧ x < (t.1.length : Int)) ∧ (0 ≤ y ∧ y < (t.1.length : Int)) ∧ x ≠ y := by
  obtain ⟨z, hz, h, e⟩ := h
  have := ht.tie z hz
  omega
theorem near_step {t : Tr} (ht : TreeOk t) {x y : Int} : y ∈ nearOf t.2 x ↔ ∃ c, Step t x y c := by
  rw [nearOf_mem fun z hz => (ht.tie z hz).2.1]
  constructor
  · rintro ⟨z, hz, h⟩
    exact ⟨z.c, z, hz, by omega, rfl⟩
  · rintro ⟨c, z, hz, h, e⟩
    exact ⟨z, hz, by omega⟩

/-! ### ways: the one way between two places -/
inductive Way (t : Tr) : Int → List Int → Int → Int → Prop
  | one (x : Int) : Way t x [] x 0
  | cons {x y z l d : Int} {ps : List Int} : Step t x y l → Way t y ps z d → Way t x (y :: ps) z (l + d)
theorem sumF_two {l : List Int} {f : Int → Nat} {x y : Int} (hx : x ∈ l) (hy : y ∈ l) (h : x ≠ y) : f x + f y ≤ sumF l f := by
  induction l with
  | nil => cases hx
  | cons z l ih =>
    have e : sumF (z :: l) f = f z + sumF l f := rfl
    rw [e]
    rcases List.mem_cons.mp hx with hx | hx <;> rcases List.mem_cons.mp hy with hy | hy
    · exact (h (hx.trans hy.symm)).elim
    · rw [hx]
      have := sumF_mem (f := f) hy
      omega
    · rw [hy]
      have := sumF_mem (f := f) hx
      omega
    · have := ih hx hy
      omega
theorem stp_sym {t : Tr} {a b l : Int} (h : Step t a b l) : Step t b a l := by
  obtain ⟨z, hz, h, e⟩ := h
  exact ⟨z, hz, by omega, e⟩
structure Ld (t : Tr) (m : Int → Int → Int → Nat) : Prop where
  le : ∀ a b c x, a ∈ nearOf t.2 b → c ∈ nearOf t.2 b → c ≠ a → 0 ≤ x → x < (t.1.length : Int) → m b c x ≤ m a b x
  at_ : ∀ a b, a ∈ nearOf t.2 b → 1 ≤ m a b b
  one : ∀ q x c c', 0 ≤ x → x < (t.1.length : Int) → c ∈ nearOf t.2 q → c' ∈ nearOf t.2 q → 1 ≤ m q c x → 1 ≤ m q c' x → c = c'
theorem leads {t : Tr} (ht : TreeOk t) : ∃ m, Ld t m := by
  obtain ⟨ps, ts, g, hp, e⟩ := ht.ex
  obtain ⟨m, M⟩ := weights g
  have perm : ∀ b, (nearOf t.2 b).Perm (nbr ts b) := fun b => by
    unfold nearOf nbr
    rw [e]
    exact (sortT_perm _).trans ((sortT_perm ts).filterMap _)
  have inp : ∀ x : Int, 0 ≤ x → x < (t.1.length : Int) → x ∈ ps := fun x h0 h1 => hp.mem_iff.mpr (rangeL_mem.mpr ⟨h0, h1⟩)
  refine ⟨m, fun a b c x ha hc hca x0 x1 => ?_, fun a b ha => ?_, fun q x c c' x0 x1 hc hc' h1 h2 => ?_⟩
  · have ha' := (perm b).mem_iff.mp ha
    have hc' := (perm b).mem_iff.mp hc
    rw [M.one a b x ha' (inp x x0 x1)]
    have := sumF_mem (l := (nbr ts b).filter fun c => decide (c ≠ a)) (f := fun c => m b c x) (List.mem_filter.mpr ⟨hc', decide_eq_true hca⟩)
    have h2 : m b c x ≤ _ := this
    omega
  · have ha' := (perm b).mem_iff.mp ha
    rw [M.one a b b ha' (nbr_in g ha').2.1]
    unfold ind
    rw [if_pos rfl]
    omega
  · refine Classical.byContradiction fun hne => ?_
    have k1 := (perm q).mem_iff.mp hc
    have k2 := (perm q).mem_iff.mp hc'
    have h3 := M.all q x (nbr_in g k1).2.1 (inp x x0 x1)
    have h4 := sumF_two (f := fun c => m q c x) k1 k2 hne
    have h4 : m q c x + m q c' x ≤ _ := h4
    omega
section
variable {t : Tr} (ht : TreeOk t)
include ht
theorem way_rg {x z d : Int} {ps : List Int} (h : Way t x ps z d) (x0 : 0 ≤ x) (x1 : x < (t.1.length : Int)) : 0 ≤ z ∧ z < (t.1.length : Int) := by
  induction h with
  | one x => exact ⟨x0, x1⟩
  | cons hs _ ih =>
    have := step_rg ht hs
    exact ih this.2.1.1 this.2.1.2
theorem way_lead {m : Int → Int → Int → Nat} (L : Ld t m) {y z d : Int} {ps : List Int} (h : Way t y ps z d) : ∀ {x l : Int}, Step t x y l → (x :: y :: ps).Nodup → 1 ≤ m x y z := by
  induction h with
  | one y =>
    intro x l hs _
    exact L.at_ x y ((near_step ht).mpr ⟨l, stp_sym hs⟩)
  | @cons y y2 z l2 d ps hs2 hw ih =>
    intro x l hs nd
    have hn := List.nodup_cons.mp nd
    have h1 := ih hs2 hn.2
    have rg := step_rg ht hs2
    have hz := way_rg ht hw rg.2.1.1 rg.2.1.2
    have h2 := L.le x y y2 z ((near_step ht).mpr ⟨l, stp_sym hs⟩) ((near_step ht).mpr ⟨l2, hs2⟩) (fun e => hn.1 (by rw [← e]; simp)) hz.1 hz.2
    omega
omit ht in
theorem way_mem {x z d : Int} {ps : List Int} (h : Way t x ps z d) : z ∈ x :: ps := by
  induction h with
  | one x => simp
  | cons _ _ ih => exact List.mem_cons_of_mem _ ih
theorem way_uniq {x z d : Int} {ps : List Int} (h : Way t x ps z d) : ∀ {qs : List Int} {e : Int}, Way t x qs z e → (x :: ps).Nodup → (x :: qs).Nodup → ps = qs ∧ d = e := by
  obtain ⟨m, L⟩ := leads ht
  induction h with
  | one x =>
    intro qs e hq _ nq
    cases hq with
    | one => exact ⟨rfl, rfl⟩
    | cons hs hw => exact absurd (way_mem hw) (List.nodup_cons.mp nq).1
  | @cons x y z l d ps hs hw ih =>
    intro qs e hq np nq
    cases hq with
    | one => exact absurd (way_mem hw) (List.nodup_cons.mp np).1
    | @cons _ y' _ l' d' qs hs' hw' =>
      have rg := step_rg ht hs
      have hz := way_rg ht hw rg.2.1.1 rg.2.1.2
      have e1 := L.one x z y y' hz.1 hz.2 ((near_step ht).mpr ⟨l, hs⟩) ((near_step ht).mpr ⟨l', hs'⟩) (way_lead ht L hw hs np) (way_lead ht L hw' hs' nq)
      subst e1
      have el : l = l' := Option.some.inj ((step_len ht hs).symm.trans (step_len ht hs'))
      subst el
      obtain ⟨i1, i2⟩ := ih hw' (List.nodup_cons.mp np).2 (List.nodup_cons.mp nq).2
      exact ⟨by rw [i1], by rw [i2]⟩
omit ht
theorem way_snoc {x z d y l : Int} {ps : List Int} (h : Way t x ps z d) (hs : Step t z y l) : Way t x (ps ++ [y]) y (d + l) := by
  induction h with
  | one x =>
    have := Way.cons hs (Way.one y)
    rw [Int.add_zero] at this
    rw [Int.zero_add]
    exact this
  | cons h1 _ ih =>
    rw [Int.add_assoc]
    exact Way.cons h1 (ih hs)
theorem way_pre {x z d b : Int} {ps : List Int} (h : Way t x ps z d) : b ∈ x :: ps → ∃ qs e, Way t x qs b e ∧ ∃ rs, ps = qs ++ rs := by
  induction h with
  | one x =>
    intro hb
    have hb := List.mem_singleton.mp hb
    subst hb
    exact ⟨[], 0, Way.one _, [], rfl⟩
  | @cons x y z l d ps hs _ ih =>
    intro hb
    by_cases e : b = x
    · subst e
      exact ⟨[], 0, Way.one _, y :: ps, rfl⟩
    · obtain ⟨qs, e2, h1, rs, h2⟩ := ih (by
        rcases List.mem_cons.mp hb with h | h
        · exact (e h).elim
        · exact h)
      exact ⟨y :: qs, l + e2, Way.cons hs h1, rs, by rw [h2]; rfl⟩
theorem way_app {x y z d e : Int} {ps qs : List Int} (h : Way t x ps y d) (h2 : Way t y qs z e) : Way t x (ps ++ qs) z (d + e) := by
  induction h with
  | one x => rw [Int.zero_add]; exact h2
  | cons hs _ ih => rw [Int.add_assoc]; exact Way.cons hs (ih h2)
theorem way_rev {x z d : Int} {ps : List Int} (h : Way t x ps z d) : ∃ qs, Way t z qs x d ∧ z :: qs = (x :: ps).reverse := by
  induction h with
  | one x => exact ⟨[], Way.one x, rfl⟩
  | @cons x y z l d ps hs _ ih =>
    obtain ⟨qs, h1, h2⟩ := ih
    refine ⟨qs ++ [x], ?_, ?_⟩
    · rw [Int.add_comm]
      exact way_snoc h1 (stp_sym hs)
    · rw [List.reverse_cons, ← h2]
      rfl
/-- how far it is -/
def Dist (t : Tr) (x y d : Int) : Prop := ∃ ps, Way t x ps y d ∧ (x :: ps).Nodup
theorem dist_uniq (ht : TreeOk t) {x y d e : Int} (h : Dist t x y d) (h2 : Dist t x y e) : d = e := by
  obtain ⟨ps, h, n⟩ := h
  obtain ⟨qs, h2, n2⟩ := h2
  exact (way_uniq ht h h2 n n2).2
theorem dist_self (x : Int) : Dist t x x 0 := ⟨[], Way.one x, by simp⟩
theorem dist_sym {x y d : Int} (h : Dist t x y d) : Dist t y x d := by
  obtain ⟨ps, h, n⟩ := h
  obtain ⟨qs, h1, h2⟩ := way_rev h
  exact ⟨qs, h1, by rw [h2]; exact (List.reverse_perm _).nodup_iff.mpr n⟩
theorem dist_all (ht : TreeOk t) {x : Int} (x0 : 0 ≤ x) (x1 : x < (t.1.length : Int)) : ∀ y, 0 ≤ y → y < (t.1.length : Int) → ∃ d, Dist t x y d := by
  have go : ∀ {a b l : Int}, Step t a b l → (∃ d, Dist t x a d) → ∃ d, Dist t x b d := fun {a b l} hs ⟨d, ps, h, n⟩ => by
    by_cases hb : b ∈ x :: ps
    · obtain ⟨qs, e, h1, rs, h2⟩ := way_pre h hb
      refine ⟨e, qs, h1, ?_⟩
      rw [h2] at n
      exact n.sublist (List.Sublist.cons_cons _ (List.sublist_append_left qs rs))
    · refine ⟨d + l, ps ++ [b], way_snoc h hs, ?_⟩
      rw [← List.cons_append]
      exact List.nodup_append.mpr ⟨n, by simp, fun u hu v hv e => hb (by rw [List.mem_singleton.mp hv] at e; rw [← e]; exact hu)⟩
  exact tree_all ht (fun y => ∃ d, Dist t x y d) (fun z hz => ⟨go ⟨z, hz, .inl ⟨rfl, rfl⟩, rfl⟩, go ⟨z, hz, .inr ⟨rfl, rfl⟩, rfl⟩⟩) x x0 x1 ⟨0, dist_self x⟩
theorem dist_fun (ht : TreeOk t) : ∃ D : Int → Int → Int, ∀ x y, 0 ≤ x → x < (t.1.length : Int) → 0 ≤ y → y < (t.1.length : Int) → Dist t x y (D x y) := by
  have h : ∀ p : Int × Int, ∃ d, 0 ≤ p.1 → p.1 < (t.1.length : Int) → 0 ≤ p.2 → p.2 < (t.1.length : Int) → Dist t p.1 p.2 d := fun p => by
    by_cases c : (0 ≤ p.1 ∧ p.1 < (t.1.length : Int)) ∧ 0 ≤ p.2 ∧ p.2 < (t.1.length : Int)
    · obtain ⟨d, hd⟩ := dist_all ht c.1.1 c.1.2 p.2 c.2.1 c.2.2
      exact ⟨d, fun _ _ _ _ => hd⟩
    · exact ⟨0, fun h1 h2 h3 h4 => (c ⟨⟨h1, h2⟩, h3, h4⟩).elim⟩
  obtain ⟨D, hD⟩ := Classical.skolem.mp h
  exact ⟨fun x y => D (x, y), fun x y h1 h2 h3 h4 => hD (x, y) h1 h2 h3 h4⟩
/-- .. by places of a list alone -/
def DistIn (t : Tr) (F : List Int) (x y d : Int) : Prop := ∃ ps, Way t x ps y d ∧ (x :: ps).Nodup ∧ ∀ p ∈ x :: ps, p ∈ F
theorem DistIn.dist {F : List Int} {x y d : Int} (h : DistIn t F x y d) : Dist t x y d := by
  obtain ⟨ps, h1, h2, _⟩ := h
  exact ⟨ps, h1, h2⟩
theorem DistIn.mono {F G : List Int} {x y d : Int} (h : DistIn t F x y d) (s : ∀ p ∈ F, p ∈ G) : DistIn t G x y d := by
  obtain ⟨ps, h1, h2, h3⟩ := h
  exact ⟨ps, h1, h2, fun p hp => s p (h3 p hp)⟩
theorem DistIn.next {F : List Int} {x y z l d : Int} (h : DistIn t F x y d) (hs : Step t y z l) (hz : z ∉ F) : DistIn t (F ++ [z]) x z (d + l) := by
  obtain ⟨ps, h1, h2, h3⟩ := h
  refine ⟨ps ++ [z], way_snoc h1 hs, ?_, fun p hp => ?_⟩
  · rw [← List.cons_append]
    exact List.nodup_append.mpr ⟨h2, by simp, fun u hu v hv e => hz (by rw [List.mem_singleton.mp hv] at e; rw [← e]; exact h3 u hu)⟩
  · rw [← List.cons_append] at hp
    rcases List.mem_append.mp hp with hp | hp
    · exact List.mem_append_left _ (h3 p hp)
    · exact List.mem_append_right _ hp
end
section
variable {t : Tr}
theorem way_split {x z d b : Int} {ps : List Int} (h : Way t x ps z d) : b ∈ x :: ps → ∃ qs rs e f, Way t x qs b e ∧ Way t b rs z f ∧ ps = qs ++ rs ∧ d = e + f := by
  induction h with
  | one x =>
    intro hb
    have hb := List.mem_singleton.mp hb
    subst hb
    exact ⟨[], [], 0, 0, Way.one _, Way.one _, rfl, rfl⟩
  | @cons x y z l d ps hs hw ih =>
    intro hb
    by_cases e : b = x
    · subst e
      exact ⟨[], y :: ps, 0, l + d, Way.one _, Way.cons hs hw, rfl, (Int.zero_add _).symm⟩
    · obtain ⟨qs, rs, e2, f, h1, h2, h3, h4⟩ := ih (by
        rcases List.mem_cons.mp hb with h | h
        · exact (e h).elim
        · exact h)
      exact ⟨y :: qs, rs, l + e2, f, Way.cons hs h1, h2, by rw [h3]; rfl, by rw [h4, Int.add_assoc]⟩
/-- a way without going round -/
theorem way_short {x z d : Int} {ps : List Int} (h : Way t x ps z d) : ∃ qs e, Way t x qs z e ∧ (x :: qs).Nodup ∧ ∀ p ∈ x :: qs, p ∈ x :: ps := by
  induction h with
  | one x => exact ⟨[], 0, Way.one x, by simp, fun p hp => hp⟩
  | @cons x y z l d ps hs _ ih =>
    obtain ⟨qs, e, h1, h2, h3⟩ := ih
    by_cases hx : x ∈ y :: qs
    · obtain ⟨us, rs, e1, f, g1, g2, g3, g4⟩ := way_split h1 hx
      refine ⟨rs, f, g2, ?_, fun p hp => ?_⟩
      · rw [g3, ← List.cons_append] at h2
        have n := List.nodup_append.mp h2
        exact List.nodup_cons.mpr ⟨fun hr => n.2.2 x (way_mem g1) x hr rfl, n.2.1⟩
      · rcases List.mem_cons.mp hp with e | hp
        · rw [e]; exact List.mem_cons_self
        · refine List.mem_cons_of_mem _ (h3 p ?_)
          rw [g3]
          exact List.mem_cons_of_mem _ (List.mem_append_right _ hp)
    · exact ⟨y :: qs, l + e, Way.cons hs h1, List.nodup_cons.mpr ⟨hx, h2⟩, fun p hp => by
        rcases List.mem_cons.mp hp with e | hp
        · rw [e]; exact List.mem_cons_self
        · exact List.mem_cons_of_mem _ (h3 p hp)⟩
end

/-! ### going over a tree from a place -/
structure Fs (t : Tr) (p : Int) (ks : List Int) (v : Int → Int) : Prop where
  nd : ks.Nodup
  rg : ∀ x ∈ ks, 0 ≤ x ∧ x < (t.1.length : Int)
  st : p ∈ ks
  ds : ∀ x ∈ ks, DistIn t ks p x (v x)
def updV (v : Int → Int) (k d : Int) : Int → Int := fun x => if x = k then d else v x
section
variable {t : Tr} {p : Int} {ks : List Int} {v : Int → Int}
theorem Fs.one (p0 : 0 ≤ p) (p1 : p < (t.1.length : Int)) {v : Int → Int} (h : v p = 0) : Fs t p [p] v where
  nd := by simp
  rg := fun x hx => by rw [List.mem_singleton.mp hx]; exact ⟨p0, p1⟩
  st := List.mem_singleton.mpr rfl
  ds := fun x hx => by
    rw [List.mem_singleton.mp hx, h]
    exact ⟨[], Way.one p, by simp, fun q hq => hq⟩
theorem Fs.len (h : Fs t p ks v) : ks.length ≤ t.1.length := by
  have := nd_sub_len (m := rangeL 0 (t.1.length : Int)) h.nd fun x hx => rangeL_mem.mpr (h.rg x hx)
  rw [rangeL_length] at this
  omega
theorem Fs.add (ht : TreeOk t) (h : Fs t p ks v) {y z l : Int} (hs : Step t y z l) (hy : y ∈ ks) (hz : z ∉ ks) : Fs t p (ks ++ [z]) (updV v z (v y + l)) where
  nd := List.nodup_append.mpr ⟨h.nd, by simp, fun a ha b hb e => hz (by rw [List.mem_singleton.mp hb] at e; rw [← e]; exact ha)⟩
  rg := fun x hx => by
    rcases List.mem_append.mp hx with hx | hx
    · exact h.rg x hx
    · rw [List.mem_singleton.mp hx]; exact (step_rg ht hs).2.1
  st := List.mem_append_left _ h.st
  ds := fun x hx => by
    unfold updV
    by_cases e : x = z
    · rw [if_pos e, e]
      exact (h.ds y hy).next hs hz
    · rw [if_neg e]
      rcases List.mem_append.mp hx with hx | hx
      · exact (h.ds x hx).mono fun q hq => List.mem_append_left _ hq
      · exact (e (List.mem_singleton.mp hx)).elim
theorem Fs.all (ht : TreeOk t) (h : Fs t p ks v) (hc : ∀ x ∈ ks, ∀ y l, Step t x y l → y ∈ ks) : ∀ y, 0 ≤ y → y < (t.1.length : Int) → y ∈ ks ∧ Dist t p y (v y) := by
  have hp := h.rg p h.st
  have := tree_all ht (fun y => y ∈ ks) (fun z hz => ⟨fun q => hc _ q _ _ ⟨z, hz, .inl ⟨rfl, rfl⟩, rfl⟩, fun q => hc _ q _ _ ⟨z, hz, .inr ⟨rfl, rfl⟩, rfl⟩⟩) p hp.1 hp.2 h.st
  exact fun y y0 y1 => ⟨this y y0 y1, (h.ds y (this y y0 y1)).dist⟩
end
/-- while the neighbours of one place are looked at -/
structure Vs (t : Tr) (p : Int) (ks0 ini ks : List Int) (v : Int → Int) (wt : List Int) : Prop where
  f : Fs t p ks v
  s0 : ∀ x ∈ ks0, x ∈ ks
  ln : wt.length + ks0.length = ini.length + ks.length
  ws : ∀ x ∈ wt, x ∈ ks
  is : ∀ x ∈ ini, x ∈ wt
  nw : ∀ x ∈ ks, x ∈ ks0 ∨ x ∈ wt
/-- ahead of it and behind it -/
structure Ws (t : Tr) (p : Int) (m : Nat) (ks : List Int) (v : Int → Int) (wt : List Int) : Prop where
  f : Fs t p ks v
  m1 : m + 2 * ks.length = 2 * t.1.length + wt.length
  m2 : m ≤ 2 * t.1.length
  ws : ∀ x ∈ wt, x ∈ ks
  cl : ∀ x ∈ ks, x ∈ wt ∨ ∀ y l, Step t x y l → y ∈ ks
section
variable {t : Tr} {p : Int} {ks0 ini ks wt : List Int} {v : Int → Int} {m : Nat}
theorem Ws.one (p0 : 0 ≤ p) (p1 : p < (t.1.length : Int)) {v : Int → Int} (h : v p = 0) : Ws t p (2 * t.1.length - 1) [p] v [p] where
  f := Fs.one p0 p1 h
  m1 := by show 2 * t.1.length - 1 + 2 * 1 = 2 * t.1.length + 1; omega
  m2 := by omega
  ws := fun _ h => h
  cl := fun _ h => .inl h
theorem Ws.enter {here : Int} (h : Ws t p m ks v (ini ++ [here])) : Vs t p ks ini ks v ini where
  f := h.f
  s0 := fun _ h => h
  ln := by omega
  ws := fun x hx => h.ws x (List.mem_append_left _ hx)
  is := fun _ h => h
  nw := fun _ h => .inl h
theorem Vs.add (ht : TreeOk t) (h : Vs t p ks0 ini ks v wt) {here y l : Int} (hh : here ∈ ks0) (hs : Step t here y l) (hy : y ∉ ks) : Vs t p ks0 ini (ks ++ [y]) (updV v y (v here + l)) (wt ++ [y]) where
  f := h.f.add ht hs (h.s0 here hh) hy
  s0 := fun x hx => List.mem_append_left _ (h.s0 x hx)
  ln := by
    have := h.ln
    rw [List.length_append, List.length_append, List.length_singleton]
    omega
  ws := fun x hx => by
    rcases List.mem_append.mp hx with hx | hx
    · exact List.mem_append_left _ (h.ws x hx)
    · exact List.mem_append_right _ hx
  is := fun x hx => List.mem_append_left _ (h.is x hx)
  nw := fun x hx => by
    rcases List.mem_append.mp hx with hx | hx
    · rcases h.nw x hx with z | z
      · exact .inl z
      · exact .inr (List.mem_append_left _ z)
    · exact .inr (List.mem_append_right _ hx)
theorem Vs.leave {here : Int} (h0 : Ws t p m ks0 v (ini ++ [here])) {v' : Int → Int} (h : Vs t p ks0 ini ks v' wt) (hn : ∀ y l, Step t here y l → y ∈ ks) : ∃ m', m' < m ∧ Ws t p m' ks v' wt := by
  have h1 := h0.m1
  have h2 := h0.m2
  have h3 := h.ln
  have h4 := h.f.len
  rw [List.length_append, List.length_singleton] at h1
  have h5 : ks0.length ≤ ks.length := nd_sub_len h0.f.nd h.s0
  have h6 := h0.f.len
  refine ⟨2 * t.1.length + wt.length - 2 * ks.length, by omega, h.f, by omega, by omega, h.ws, fun x hx => ?_⟩
  rcases h.nw x hx with z | z
  · rcases h0.cl x z with q | q
    · rcases List.mem_append.mp q with q | q
      · exact .inl (h.is x q)
      · rw [List.mem_singleton.mp q]; exact .inr hn
    · exact .inr fun y l hs => h.s0 y (q y l hs)
  · exact .inl z
theorem Ws.fin (ht : TreeOk t) (h : Ws t p m ks v []) : ∀ y, 0 ≤ y → y < (t.1.length : Int) → y ∈ ks ∧ Dist t p y (v y) := h.f.all ht fun x hx => by
  rcases h.cl x hx with z | z
  · exact nomatch z
  · exact z
end
/-- the last one of a list, and the others -/
theorem nil_or_last {a : Type} : ∀ l : List a, l = [] ∨ ∃ i x, l = i ++ [x]
  | [] => .inl rfl
  | x :: xs => by
    rcases nil_or_last xs with e | ⟨i, y, e⟩
    · exact .inr ⟨[], x, by rw [e]; rfl⟩
    · exact .inr ⟨x :: i, y, by rw [e]; rfl⟩
theorem popL_last {a : Type} (xs : List a) (x : a) : popL (xs ++ [x]) = .ok (x, xs) := by
  unfold popL
  rw [List.length_append, List.length_singleton, Nat.add_sub_cancel, List.getElem?_append_right (Nat.le_refl _), Nat.sub_self]
  show Except.ok (x, (xs ++ [x]).dropLast) = _
  rw [List.dropLast_concat]
theorem whL_runM {s r : Type} {b : s → M (PG.Ws s r)} (P : Nat → s → Prop) (Qf : s → Prop) (step : ∀ m x, P m x → (∃ x' m', m' < m ∧ b x = .ok (.go x') ∧ P m' x') ∨ (∃ x', b x = .ok (.stop x') ∧ Qf x')) : ∀ (n m : Nat) (x : s), P m x → m < n → ∃ x', whL b n x = .ok (.nx x') ∧ Qf x'
  | 0, m, x, _, h => absurd h (Nat.not_lt_zero _)
  | n + 1, m, x, p, h => by
    rcases step m x p with ⟨x', m', l, e, p'⟩ | ⟨x', e, q⟩
    · obtain ⟨x2, e2, q2⟩ := whL_runM P Qf step n m' x' p' (by omega)
      refine ⟨x2, ?_, q2⟩
      show (b x >>= _) = _
      rw [bind_ok e]
      exact e2
    · refine ⟨x', ?_, q⟩
      show (b x >>= _) = _
      rw [bind_ok e]

/-! ### alike -/
theorem alike1_ok (xs ys : List Int) (h : ys.length ≤ 1000000) : m_law_alike_1 xs ys = .ok (decide (xs = ys)) := by
  unfold m_law_alike_1
  rw [if_neg (fun z => z rfl)]
  by_cases hl : (xs.length : Int) = (ys.length : Int)
  · rw [if_neg (fun z => z hl), chk_b (show okR (ys.length : Int) from ⟨by omega, by omega⟩)]
    have hl' : xs.length = ys.length := by omega
    rw [bind_ok (compS_pure (fun k => if xs[k.toNat]? = ys[k.toNat]? then none else some k) (by rw [rangeL_length]; omega) fun k hk => by
      have hk := rangeL_mem.mp hk
      obtain ⟨x, x1, x2⟩ := atI_some (xs := xs) (j := k) hk.1 (by omega)
      obtain ⟨y, y1, y2⟩ := atI_some (xs := ys) (j := k) hk.1 hk.2
      rw [opt_b x1, opt_b y1, x2, y2]
      unfold m_law_alike_0
      by_cases e : x = y
      · rw [if_pos (congrArg some e)]
        show (if decide (x = y) = true then _ else _) = _
        rw [if_pos (decide_eq_true e)]
      · rw [if_neg (fun z => e (Option.some.inj z))]
        show (if decide (x = y) = true then _ else _) = _
        rw [if_neg (fun z => e (of_decide_eq_true z))])]
    refine congrArg Except.ok (decide_eq_decide.mpr ⟨fun h => ?_, fun h => ?_⟩)
    · have h : List.filterMap _ _ = [] := h
      rw [List.filterMap_eq_nil_iff] at h
      refine List.ext_getElem? fun i => ?_
      by_cases hi : i < ys.length
      · have := h (i : Int) (rangeL_mem.mpr ⟨by omega, by omega⟩)
        rw [Int.toNat_natCast] at this
        by_cases c : xs[i]? = ys[i]?
        · exact c
        · rw [if_neg c] at this; exact nomatch this
      · rw [List.getElem?_eq_none (by omega), List.getElem?_eq_none (by omega)]
    · subst h
      show List.filterMap _ _ = []
      rw [List.filterMap_eq_nil_iff]
      exact fun k _ => if_pos rfl
  · rw [if_pos hl]
    exact congrArg Except.ok (decide_eq_false fun e => hl (by rw [e])).symm

/-! ### other lengths -/
def reE (f : Tie → Int) (z : Tie) : Tie := ⟨z.a, z.b, f z⟩
theorem reE_tie (f : Tie → Int) (p q l : Int) : reE f (tieOf p q l) = tieOf p q (f (tieOf p q l)) := by
  obtain ⟨c, hc⟩ : ∃ c, c = f (tieOf p q l) := ⟨_, rfl⟩
  unfold reE
  rw [← hc]
  unfold tieOf
  by_cases h : p ≤ q
  · rw [if_pos h, if_pos h]
  · rw [if_neg h, if_neg h]
theorem grown_re {f : Tie → Int} {ps : List Int} {ts : List Tie} (g : Grown ps ts) : Grown ps (ts.map (reE f)) := by
  induction g with
  | one p => exact Grown.one p
  | @more ps ts q p l g hq hp ih =>
    rw [List.map_append]
    show Grown (ps ++ [p]) (ts.map (reE f) ++ [reE f (tieOf p q l)])
    rw [reE_tie]
    exact Grown.more q p _ ih hq hp
theorem re_tree {t : Tr} (f : Tie → Int) (ht : TreeOk t) : TreeOk (t.1, t.2.map (reE f)) := by
  have nd := tree_pairs ht
  obtain ⟨ps, ts, g, hp, e⟩ := ht.ex
  refine ⟨ps, ts.map (reE f), grown_re g, hp, ?_⟩
  have srt : t.2.Pairwise (fun x y => leT x y = true) := by rw [e]; exact sortT_sorted ts
  refine perm_sorted_eq LeOk.anti ?_ ?_ (sortT_sorted _)
  · refine List.Perm.trans ?_ (sortT_perm _).symm
    show (t.2.map (reE f)).Perm _
    rw [e]
    exact (sortT_perm ts).map _
  · show (t.2.map (reE f)).Pairwise _
    rw [List.pairwise_map]
    rw [List.nodup_iff_pairwise_ne, List.pairwise_map] at nd
    refine (srt.and nd).imp ?_
    intro x y ⟨h1, h2⟩
    rw [leT_3] at h1 ⊢
    have h1 := of_decide_eq_true h1
    refine decide_eq_true ?_
    show x.a < y.a ∨ (x.a = y.a ∧ (x.b < y.b ∨ (x.b = y.b ∧ f x ≤ f y)))
    rcases h1 with h | ⟨h, k | ⟨k, _⟩⟩
    · exact .inl h
    · exact .inr ⟨h, .inl k⟩
    · exact absurd (show (x.a, x.b) = (y.a, y.b) by rw [h, k]) h2
theorem re_of : ∀ {xs ys : List Tie}, xs.map (fun z => (z.a, z.b)) = ys.map (fun z => (z.a, z.b)) → (xs.map (fun z => (z.a, z.b))).Nodup → ∃ f, ys = xs.map (reE f)
  | [], [], _, _ => ⟨fun _ => 0, rfl⟩
  | [], y :: ys, h, _ => nomatch h
  | x :: xs, [], h, _ => nomatch h
  | x :: xs, y :: ys, h, nd => by
    rw [List.map_cons, List.map_cons] at h
    injection h with h1 h2
    rw [List.map_cons] at nd
    have nd := List.nodup_cons.mp nd
    obtain ⟨f, hf⟩ := re_of h2 nd.2
    refine ⟨fun z => if (z.a, z.b) = (x.a, x.b) then y.c else f z, ?_⟩
    rw [List.map_cons]
    have e1 : y = reE (fun z => if (z.a, z.b) = (x.a, x.b) then y.c else f z) x := by
      show y = (⟨x.a, x.b, if (x.a, x.b) = (x.a, x.b) then y.c else f x⟩ : Tie)
      rw [if_pos rfl]
      have a1 : x.a = y.a := congrArg Prod.fst h1
      have a2 : x.b = y.b := congrArg Prod.snd h1
      cases y
      rw [a1, a2]
    rw [← e1, hf]
    refine congrArg (y :: ·) (List.map_congr_left fun z hz => ?_)
    show (⟨z.a, z.b, f z⟩ : Tie) = ⟨z.a, z.b, if (z.a, z.b) = (x.a, x.b) then y.c else f z⟩
    rw [if_neg fun e => nd.1 (by rw [← e]; exact List.mem_map.mpr ⟨z, hz, rfl⟩)]
/-! ### a row, or a star -/
def plainTs (g : Int → Int) (w : Int) (n : Nat) : List Tie := (rangeL 1 (n : Int)).map fun k => ⟨g k, k, w⟩
theorem range0_succ (n : Nat) : rangeL 0 ((n + 1 : Nat) : Int) = rangeL 0 (n : Int) ++ [(n : Int)] := by
  unfold rangeL
  rw [show ((n + 1 : Nat) : Int) - 0 = ((n + 1 : Nat) : Int) by omega, show (n : Int) - 0 = (n : Int) by omega, Int.toNat_natCast, Int.toNat_natCast, List.range_succ, List.map_append]
  refine congrArg (_ ++ ·) ?_
  show [(0 : Int) + (n : Int)] = _
  rw [Int.zero_add]
theorem range1_succ (n : Nat) : rangeL 1 ((n + 2 : Nat) : Int) = rangeL 1 ((n + 1 : Nat) : Int) ++ [((n + 1 : Nat) : Int)] := by
  unfold rangeL
  rw [show ((n + 2 : Nat) : Int) - 1 = ((n + 1 : Nat) : Int) by omega, show ((n + 1 : Nat) : Int) - 1 = (n : Int) by omega, Int.toNat_natCast, Int.toNat_natCast, List.range_succ, List.map_append]
  refine congrArg (_ ++ ·) ?_
  show [(1 : Int) + (n : Int)] = _
  exact congrArg (fun z => [z]) (by omega)
theorem plain_grown {g : Int → Int} (w : Int) (hg : ∀ k, 1 ≤ k → 0 ≤ g k ∧ g k < k) : ∀ n : Nat, Grown (rangeL 0 ((n + 1 : Nat) : Int)) (plainTs g w (n + 1))
  | 0 => Grown.one 0
  | n + 1 => by
    have ih := plain_grown w hg n
    have h := hg ((n + 1 : Nat) : Int) (by omega)
    have e : (⟨g ((n + 1 : Nat) : Int), ((n + 1 : Nat) : Int), w⟩ : Tie) = tieOf ((n + 1 : Nat) : Int) (g ((n + 1 : Nat) : Int)) w := by
      unfold tieOf
      rw [if_neg (by omega)]
    unfold plainTs at ih ⊢
    rw [range0_succ (n + 1), range1_succ n, List.map_append]
    show Grown _ (_ ++ [(⟨g ((n + 1 : Nat) : Int), ((n + 1 : Nat) : Int), w⟩ : Tie)])
    rw [e]
    exact Grown.more _ _ w ih (rangeL_mem.mpr ⟨h.1, h.2⟩) fun z => by have := (rangeL_mem.mp z).2; omega
theorem range_lt (lo hi : Int) : (rangeL lo hi).Pairwise (· < ·) := by
  unfold rangeL
  rw [List.pairwise_map]
  exact (List.pairwise_lt_range).imp fun h => by omega
theorem plain_tree (ws : List Int) {g : Int → Int} (w : Int) (hg : ∀ k, 1 ≤ k → 0 ≤ g k ∧ g k < k) (hm : ∀ j k, j < k → g j ≤ g k) (h1 : 1 ≤ ws.length) : TreeOk (ws, plainTs g w ws.length) := by
  refine ⟨rangeL 0 (ws.length : Int), plainTs g w ws.length, ?_, List.Perm.refl _, ?_⟩
  · obtain ⟨n, hn⟩ : ∃ n, ws.length = n + 1 := ⟨ws.length - 1, by omega⟩
    rw [hn]
    exact plain_grown w hg n
  · refine (sortT_id ?_).symm
    show (plainTs g w ws.length).Pairwise _
    unfold plainTs
    rw [List.pairwise_map]
    refine (range_lt _ _).imp ?_
    intro j k h
    rw [leT_3]
    refine decide_eq_true ?_
    show g j < g k ∨ (g j = g k ∧ (j < k ∨ (j = k ∧ w ≤ w)))
    have := hm j k h
    omega

/-! ### the least, the middle, the hub -/
theorem mxI_some {xs : List Int} (h : xs ≠ []) : ∃ m, mxI xs = some m := by
  cases e : mxI xs with
  | none => exact (h (mxI_none e)).elim
  | some m => exact ⟨m, rfl⟩
theorem mnI_some {xs : List Int} (h : xs ≠ []) : ∃ m, mnI xs = some m := by
  cases e : mnI xs with
  | none => exact (h (mnI_none e)).elim
  | some m => exact ⟨m, rfl⟩
theorem least_ok (xs : List Int) (h : xs.length ≤ 100000) : ∃ L, m_places_of_least xs = .ok L ∧ L.length ≤ xs.length := by
  unfold m_places_of_least
  rw [chk_b (show okR (xs.length : Int) from ⟨by omega, by omega⟩)]
  obtain ⟨m, hm⟩ : ∃ m, m = (mnI xs).getD 0 := ⟨_, rfl⟩
  rw [bind_ok (compS_pure (fun y => if (xs[y.toNat]?).getD 0 = m then some y else none) (by rw [rangeL_length]; omega) fun y hy => by
    have hy := rangeL_mem.mp hy
    obtain ⟨x, x1, x2⟩ := atI_some (xs := xs) (j := y) hy.1 hy.2
    obtain ⟨n, hn⟩ := mnI_some (xs := xs) (fun z => by rw [z] at x2; exact nomatch x2)
    rw [opt_b x1, opt_b hn, x2, hm, hn]
    show _ = Except.ok (if x = n then _ else _, ())
    by_cases c : x = n
    · rw [if_pos c, if_pos c]
    · rw [if_neg c, if_neg c])]
  refine ⟨_, rfl, ?_⟩
  refine Nat.le_trans (List.length_filterMap_le _ _) ?_
  rw [rangeL_length]
  omega

theorem nr_nd {t : Tr} (ht : TreeOk t) (x : Int) : (nearOf t.2 x).Nodup := by
  unfold nearOf
  refine (sortT_perm _).nodup_iff.mpr ?_
  refine List.pairwise_filterMap.mpr ?_
  have h := List.pairwise_map.mp (tree_pairs ht)
  refine List.Pairwise.imp_of_mem ?_ h
  intro s u hs hu ne b eb b' eb' ebb
  have v1 := ht.tie s hs
  have v2 := ht.tie u hu
  subst ebb
  refine ne ?_
  unfold other at eb eb'
  by_cases a1 : s.a = x
  · rw [if_pos a1] at eb
    have eb := Option.some.inj eb
    by_cases a2 : u.a = x
    · rw [if_pos a2] at eb'
      have eb' := Option.some.inj eb'
      rw [a1, a2, eb, eb']
    · rw [if_neg a2] at eb'
      by_cases a3 : u.b = x
      · rw [if_pos a3] at eb'
        have eb' := Option.some.inj eb'
        omega
      · rw [if_neg a3] at eb'; cases eb'
  · rw [if_neg a1] at eb
    by_cases a3 : s.b = x
    · rw [if_pos a3] at eb
      have eb := Option.some.inj eb
      by_cases a2 : u.a = x
      · rw [if_pos a2] at eb'
        have eb' := Option.some.inj eb'
        omega
      · rw [if_neg a2] at eb'
        by_cases a4 : u.b = x
        · rw [if_pos a4] at eb'
          have eb' := Option.some.inj eb'
          rw [a3, a4, eb, eb']
        · rw [if_neg a4] at eb'; cases eb'
    · rw [if_neg a3] at eb; cases eb

/-! ### the part that hangs at a neighbour -/
inductive Cn (t : Tr) (p : Int) : Int → Int → Prop
  | me (x : Int) : Cn t p x x
  | on {x y z l : Int} : Cn t p x y → Step t y z l → z ≠ p → Cn t p x z
structure PtSet (t : Tr) (p q : Int) (fs : List Int) : Prop where
  nd : fs.Nodup
  mem : ∀ x, x ∈ fs ↔ Cn t p q x
structure Pt (t : Tr) (p q : Int) (at_ : Int) (fs : List Int) : Prop where
  nd : fs.Nodup
  rg : ∀ x ∈ fs, (0 ≤ x ∧ x < (t.1.length : Int)) ∧ x ≠ p
  hd : q ∈ fs
  cn : ∀ x ∈ fs, Cn t p q x
  a0 : 0 ≤ at_
  a1 : at_ ≤ (fs.length : Int)
  cl : ∀ i : Nat, (i : Int) < at_ → ∀ x, fs[i]? = some x → ∀ y l, Step t x y l → y = p ∨ y ∈ fs
theorem Pt.len {t : Tr} {p q a : Int} {fs : List Int} (h : Pt t p q a fs) : fs.length ≤ t.1.length := by
  have := nd_sub_len (m := rangeL 0 (t.1.length : Int)) h.nd fun x hx => rangeL_mem.mpr (h.rg x hx).1
  rw [rangeL_length] at this
  omega
theorem part_ok (t : Tr) (ht : TreeOk t) (hn : t.1.length ≤ 100000) {p q : Int} (q0 : 0 ≤ q) (q1 : q < (t.1.length : Int)) (hq : q ≠ p) : ∃ fs, m_part_size t p q = .ok (fs.length : Int) ∧ PtSet t p q fs ∧ fs.length ≤ t.1.length ∧ 1 ≤ fs.length := by
  have hlen := ht.len
  obtain ⟨⟨a, fs⟩, e, hf⟩ := whL_runM (r := Unit) (b := fun (st17 : Int × (List Int)) =>
    if st17.1 < (st17.2.length : Int) then (
    opt (L2.atI st17.2 st17.1) >>= fun y24 =>
    m_tied_to t y24 >>= fun r29 =>
    compS (fun (y53 : Int) (st70 : Unit) =>
    if y53 ≠ p then (
    if y53 ∉ st17.2 then (
    .ok (some y53, ()))
    else (
    .ok (none, ())))
    else (
    .ok (none, ()))) r29 () >>= fun q89 =>
    chk (st17.2.length + q89.1.length < 16777216) >>= fun _ =>
    .ok (.go ((st17.1 + (1 : Int)), (st17.2 ++ q89.1))))
    else (
    .ok (.stop (st17.1, st17.2))))
    (fun m st => Pt t p q st.1 st.2 ∧ (m : Int) + st.1 = (t.1.length : Int))
    (fun st => Pt t p q st.1 st.2 ∧ st.1 = (st.2.length : Int))
    (fun m ⟨a, fs⟩ ⟨h, hm⟩ => by
      have h : Pt t p q a fs := h
      have hm : (m : Int) + a = (t.1.length : Int) := hm
      have h0 := h.a0
      have h1 := h.a1
      have hl := h.len
      by_cases c : a < (fs.length : Int)
      · refine .inl ?_
        obtain ⟨x, x1, x2⟩ := atI_some (xs := fs) (j := a) h0 c
        have hx := List.mem_of_getElem? x2
        have rx := (h.rg x hx).1
        have nl := nearOf_len t.2 x
        obtain ⟨L, hL⟩ : ∃ L, L = (nearOf t.2 x).filter fun y => decide (y ≠ p ∧ y ∉ fs) := ⟨_, rfl⟩
        have hc : compS (fun (y53 : Int) (st70 : Unit) =>
            if y53 ≠ p then (
            if y53 ∉ fs then (
            .ok (some y53, ()))
            else (
            .ok (none, ())))
            else (
            .ok (none, ()))) (nearOf t.2 x) () = .ok (L, ()) := by
          rw [compS_pure (fun y => if y ≠ p ∧ y ∉ fs then some y else none) (by omega) fun y hy => by
            by_cases c1 : y ≠ p
            · rw [if_pos c1]
              by_cases c2 : y ∉ fs
              · rw [if_pos c2, if_pos ⟨c1, c2⟩]
              · rw [if_neg c2, if_neg fun z => c2 z.2]
            · rw [if_neg c1, if_neg fun z => c1 z.1]]
          rw [hL, ← List.filterMap_eq_filter]
          refine congrArg (fun z => Except.ok (z, ())) (congrArg (fun f => List.filterMap f (nearOf t.2 x)) (funext fun y => ?_))
          by_cases c1 : y ≠ p ∧ y ∉ fs
          · rw [if_pos c1]; simp [Option.guard, c1]
          · rw [if_neg c1]
            show none = if decide (y ≠ p ∧ y ∉ fs) = true then some y else none
            rw [if_neg (fun z => c1 (of_decide_eq_true z))]
        have mL : ∀ y, y ∈ L ↔ (∃ l, Step t x y l) ∧ y ≠ p ∧ y ∉ fs := fun y => by
          rw [hL, List.mem_filter, near_step ht]
          exact ⟨fun z => ⟨z.1, of_decide_eq_true z.2⟩, fun z => ⟨z.1, decide_eq_true z.2⟩⟩
        have lL : L.length ≤ t.2.length := by rw [hL]; exact Nat.le_trans (List.length_filter_le _ _) nl
        have g : Pt t p q (a + 1) (fs ++ L) := {
          nd := List.nodup_append.mpr ⟨h.nd, by rw [hL]; exact (nr_nd ht x).filter _, fun u hu v hv e => ((mL v).mp hv).2.2 (by rw [← e]; exact hu)⟩
          rg := fun y hy => by
            rcases List.mem_append.mp hy with hy | hy
            · exact h.rg y hy
            · obtain ⟨⟨l, hs⟩, k1, _⟩ := (mL y).mp hy
              exact ⟨(step_rg ht hs).2.1, k1⟩
          hd := List.mem_append_left _ h.hd
          cn := fun y hy => by
            rcases List.mem_append.mp hy with hy | hy
            · exact h.cn y hy
            · obtain ⟨⟨l, hs⟩, k1, _⟩ := (mL y).mp hy
              exact Cn.on (h.cn x hx) hs k1
          a0 := by omega
          a1 := by rw [List.length_append]; omega
          cl := fun i hi u hu y l hs => by
            rw [List.getElem?_append_left (by omega)] at hu
            by_cases ci : (i : Int) < a
            · rcases h.cl i ci u hu y l hs with z | z
              · exact .inl z
              · exact .inr (List.mem_append_left _ z)
            · have : i = a.toNat := by omega
              rw [this, x2] at hu
              have hu := Option.some.inj hu
              rw [← hu] at hs
              by_cases k1 : y = p
              · exact .inl k1
              · by_cases k2 : y ∈ fs
                · exact .inr (List.mem_append_left _ k2)
                · exact .inr (List.mem_append_right _ ((mL y).mpr ⟨⟨l, hs⟩, k1, k2⟩)) }
        refine ⟨(a + 1, fs ++ L), m - 1, by omega, ?_, g, by show ((m - 1 : Nat) : Int) + (a + 1) = _; omega⟩
        show (if a < (fs.length : Int) then _ else _) = _
        rw [if_pos c, opt_b x1, bind_ok (tied_to_ok t ht (by omega) x rx.1 rx.2)]
        refine (bind_ok hc _).trans ?_
        show (chk (fs.length + L.length < 16777216) >>= _) = _
        rw [chk_b (by omega)]
      · refine .inr ⟨(a, fs), ?_, h, by show a = (fs.length : Int); omega⟩
        show (if a < (fs.length : Int) then _ else _) = _
        rw [if_neg c])
    1000000 t.1.length ((0 : Int), [q]) ⟨{
      nd := by simp
      rg := fun x hx => by rw [List.mem_singleton.mp hx]; exact ⟨⟨q0, q1⟩, hq⟩
      hd := List.mem_singleton.mpr rfl
      cn := fun x hx => by rw [List.mem_singleton.mp hx]; exact Cn.me q
      a0 := Int.le_refl 0
      a1 := by show (0 : Int) ≤ ((1 : Nat) : Int); decide
      cl := fun i hi => by have hi : (i : Int) < 0 := hi; omega }, by show (t.1.length : Int) + 0 = _; omega⟩ (by omega)
  obtain ⟨h, ha⟩ := hf
  have h : Pt t p q a fs := h
  have ha : a = (fs.length : Int) := ha
  refine ⟨fs, ?_, ⟨h.nd, fun x => ⟨h.cn x, fun k => ?_⟩⟩, h.len, List.length_pos_iff.mpr (List.ne_nil_of_mem h.hd)⟩
  · unfold m_part_size
    exact (bind_ok e _).trans rfl
  · induction k with
    | me => exact h.hd
    | on _ hs hz ih =>
      obtain ⟨i, hi⟩ := List.mem_iff_getElem?.mp ih
      have hil := (List.getElem?_eq_some_iff.mp hi).1
      rcases h.cl i (by omega) _ hi _ _ hs with z | z
      · exact (hz z).elim
      · exact z
/-- the greatest part without a place -/
structure IsG (t : Tr) (p g : Int) : Prop where
  up : ∀ q ∈ nearOf t.2 p, ∃ fs, PtSet t p q fs ∧ (fs.length : Int) ≤ g
  is : g = 0 ∧ nearOf t.2 p = [] ∨ ∃ q ∈ nearOf t.2 p, ∃ fs, PtSet t p q fs ∧ (fs.length : Int) = g
theorem balance_ok (t : Tr) (ht : TreeOk t) (hn : t.1.length ≤ 100000) : ∃ G : Int → Int, (m_balance t = m_places_of_least ((rangeL 0 (t.1.length : Int)).map G)) ∧ ∀ p, 0 ≤ p → p < (t.1.length : Int) → IsG t p (G p) := by
  have hlen := ht.len
  have h : ∀ p : Int, ∃ g : Int, 0 ≤ p → p < (t.1.length : Int) → IsG t p g ∧ ∃ S : List Int, compS (fun (y69 : Int) (st86 : Unit) =>
      m_part_size t p y69 >>= fun r92 =>
      .ok (some r92, ())) (nearOf t.2 p) () = .ok (S, ()) ∧ S.length ≤ t.2.length ∧ mxI (([(0 : Int)]) ++ S) = some g := fun p => by
    by_cases c : 0 ≤ p ∧ p < (t.1.length : Int)
    · have hs : ∀ q, ∃ s : Int, q ∈ nearOf t.2 p → m_part_size t p q = .ok s ∧ ∃ fs, PtSet t p q fs ∧ (fs.length : Int) = s ∧ 1 ≤ s := fun q => by
        by_cases hq : q ∈ nearOf t.2 p
        · obtain ⟨l, hst⟩ := (near_step ht).mp hq
          have rg := step_rg ht hst
          obtain ⟨fs, f1, f2, f3, f4⟩ := part_ok t ht hn rg.2.1.1 rg.2.1.2 rg.2.2.symm
          exact ⟨(fs.length : Int), fun _ => ⟨f1, fs, f2, rfl, by omega⟩⟩
        · exact ⟨0, fun z => (hq z).elim⟩
      obtain ⟨s, hs⟩ := Classical.skolem.mp hs
      have nl := nearOf_len t.2 p
      have hc : compS (fun (y69 : Int) (st86 : Unit) =>
          m_part_size t p y69 >>= fun r92 =>
          .ok (some r92, ())) (nearOf t.2 p) () = .ok ((nearOf t.2 p).map s, ()) := by
        rw [compS_pure (fun y => some (s y)) (by omega) fun y hy => by rw [bind_ok (hs y hy).1]]
        rw [List.filterMap_eq_map']
      obtain ⟨g, hg⟩ := mxI_some (xs := ([(0 : Int)]) ++ (nearOf t.2 p).map s) (by simp)
      have hm := mxI_is hg
      refine ⟨g, fun _ _ => ⟨⟨fun q hq => ?_, ?_⟩, (nearOf t.2 p).map s, hc, by rw [List.length_map]; exact nl, hg⟩⟩
      · obtain ⟨_, fs, f1, f2, _⟩ := hs q hq
        exact ⟨fs, f1, by rw [f2]; exact hm.2 _ (List.mem_append_right _ (List.mem_map.mpr ⟨q, hq, rfl⟩))⟩
      · rcases List.mem_append.mp hm.1 with z | z
        · have z : g = 0 := List.mem_singleton.mp z
          refine .inl ⟨z, ?_⟩
          cases e : nearOf t.2 p with
          | nil => rfl
          | cons q qs =>
            have hq : q ∈ nearOf t.2 p := by rw [e]; exact List.mem_cons_self
            obtain ⟨_, fs, _, _, f3⟩ := hs q hq
            have := hm.2 _ (List.mem_append_right _ (List.mem_map.mpr ⟨q, hq, rfl⟩))
            omega
        · obtain ⟨q, hq, e⟩ := List.mem_map.mp z
          obtain ⟨_, fs, f1, f2, _⟩ := hs q hq
          exact .inr ⟨q, hq, fs, f1, by rw [f2]; exact e⟩
    · exact ⟨0, fun h1 h2 => (c ⟨h1, h2⟩).elim⟩
  obtain ⟨G, hG⟩ := Classical.skolem.mp h
  refine ⟨G, ?_, fun p p0 p1 => (hG p p0 p1).1⟩
  unfold m_balance
  rw [chk_b (show okR (t.1.length : Int) from ⟨by omega, by omega⟩)]
  obtain ⟨st, e, hst⟩ := loopN_run (f := fun (y19 : Int) (st31 : (List Int)) =>
    m_tied_to t y19 >>= fun r45 =>
    compS (fun (y69 : Int) (st86 : Unit) =>
    m_part_size t y19 y69 >>= fun r92 =>
    .ok (some r92, ())) r45 () >>= fun q109 =>
    chk (([(0 : Int)]).length + q109.1.length < 16777216) >>= fun _ =>
    opt (mxI (([(0 : Int)]) ++ q109.1)) >>= fun y139 =>
    appL st31 y139 >>= fun _ =>
    (.ok (st31 ++ [y139]) : M _)) (all := rangeL 0 (t.1.length : Int)) (x := ([] : List Int)) (fun pre st => st = pre.map G) rfl fun pre y post st ea es => by
      have hy := range_pre ea
      have hl : st.length < 16777216 := by rw [es, List.length_map]; omega
      obtain ⟨_, S, s1, s2, s3⟩ := hG y hy.2.1 hy.2.2
      refine ⟨st ++ [G y], ?_, by rw [List.map_append, es]; rfl⟩
      rw [bind_ok (tied_to_ok t ht (by omega) y hy.2.1 hy.2.2)]
      refine (bind_ok s1 _).trans ?_
      show (chk (1 + S.length < 16777216) >>= _) = _
      rw [chk_b (by omega)]
      refine (opt_b s3 _).trans ?_
      rw [bind_ok (appL_ok hl)]
  refine (bind_ok e _).trans ?_
  rw [hst]
  obtain ⟨L, l1, _⟩ := least_ok ((rangeL 0 (t.1.length : Int)).map G) (by rw [List.length_map, rangeL_length]; omega)
  rw [bind_ok l1, l1]

/-! ### parts put together tie by tie -/
theorem Cn.trans {t : Tr} {p x y z : Int} (h : Cn t p x y) (h2 : Cn t p y z) : Cn t p x z := by
  induction h2 with
  | me => exact h
  | on _ hs hz ih => exact Cn.on ih hs hz
theorem Cn.ne {t : Tr} {p x y : Int} (h : Cn t p x y) (hx : x ≠ p) : y ≠ p := by
  cases h with
  | me => exact hx
  | on _ _ hz => exact hz
theorem Cn.sym {t : Tr} {p x y : Int} (h : Cn t p x y) (hx : x ≠ p) : Cn t p y x := by
  induction h with
  | me => exact Cn.me _
  | on h1 hs hz ih => exact (Cn.on (Cn.me _) (stp_sym hs) (h1.ne hx)).trans ih
theorem Cn.more {t t' : Tr} {p x y : Int} (h : Cn t p x y) (hm : ∀ a b l, Step t a b l → Step t' a b l) : Cn t' p x y := by
  induction h with
  | me => exact Cn.me _
  | on _ hs hz ih => exact Cn.on ih (hm _ _ _ hs) hz
theorem Cn.way {t : Tr} {p x y : Int} (h : Cn t p x y) : ∃ ps d, Way t x ps y d := by
  induction h with
  | me => exact ⟨[], 0, Way.one _⟩
  | on _ hs _ ih =>
    obtain ⟨ps, d, hw⟩ := ih
    exact ⟨_, _, way_snoc hw hs⟩
theorem Way.more {t t' : Tr} {x y d : Int} {ps : List Int} (h : Way t x ps y d) (hm : ∀ a b l, Step t a b l → Step t' a b l) : Way t' x ps y d := by
  induction h with
  | one x => exact Way.one x
  | cons hs _ ih => exact Way.cons (hm _ _ _ hs) ih
theorem Way.cn {t : Tr} {p x y d : Int} {ps : List Int} (h : Way t x ps y d) (hp : p ∉ ps) : Cn t p x y := by
  induction h with
  | one x => exact Cn.me x
  | cons hs _ ih => exact (Cn.on (Cn.me _) hs fun e => hp (by rw [← e]; exact List.mem_cons_self)).trans (ih fun z => hp (List.mem_cons_of_mem _ z))
theorem no_loop {t : Tr} (ht : TreeOk t) {pre post : List Tie} {z : Tie} (e : t.2 = pre ++ z :: post) {p : Int} : ¬ Cn ((t.1, pre) : Tr) p z.a z.b := fun h => by
  have hz : z ∈ t.2 := by rw [e]; simp
  have hzt := ht.tie z hz
  have sub : ∀ a b l, Step ((t.1, pre) : Tr) a b l → Step t a b l := fun a b l ⟨y, hy, h⟩ => ⟨y, by rw [e]; exact List.mem_append_left _ hy, h⟩
  obtain ⟨ps, d, hw⟩ := h.way
  obtain ⟨qs, d2, hw2, nd, _⟩ := way_short hw
  have hst : Step t z.a z.b z.c := ⟨z, hz, .inl ⟨rfl, rfl⟩, rfl⟩
  have w1 : Way t z.a [z.b] z.b (z.c + 0) := Way.cons hst (Way.one _)
  have hq := (way_uniq ht w1 (hw2.more sub) (by
    refine List.nodup_cons.mpr ⟨fun hm => ?_, by simp⟩
    have := List.mem_singleton.mp hm
    omega) nd).1
  rw [← hq] at hw2
  cases hw2 with
  | cons hs _ =>
    obtain ⟨y, hy, hh, _⟩ := hs
    have hy : y ∈ pre := hy
    have hyt := ht.tie y (by rw [e]; exact List.mem_append_left _ hy)
    have nd := tree_pairs ht
    rw [e, List.map_append, List.map_cons] at nd
    refine (List.nodup_append.mp nd).2.2 (y.a, y.b) (List.mem_map.mpr ⟨y, hy, rfl⟩) (z.a, z.b) List.mem_cons_self ?_
    rcases hh with ⟨a, b⟩ | ⟨a, b⟩
    · rw [a, b]
    · omega
theorem rem_perm {a : Type} [DecidableEq a] {xs : List a} {y : a} (h : y ∈ xs) : xs.Perm (y :: remL xs y) := by
  unfold remL ixL
  have hi := List.idxOf_lt_length_of_mem h
  have e : xs[xs.idxOf y]? = some y := by
    rw [List.getElem?_eq_getElem hi]
    exact congrArg some (List.getElem_idxOf hi)
  have e2 : xs = xs.take (xs.idxOf y) ++ y :: xs.drop (xs.idxOf y + 1) := by
    have h2 : xs.drop (xs.idxOf y) = y :: xs.drop (xs.idxOf y + 1) := by
      rw [List.drop_eq_getElem_cons hi]
      exact congrArg (· :: _) (List.getElem_idxOf hi)
    rw [← h2, List.take_append_drop]
  refine (List.Perm.of_eq e2).trans ?_
  exact List.perm_middle
theorem flat_eq : ∀ {P : List (List Int)}, P.flatten.Nodup → ∀ {q r : List Int} {x : Int}, q ∈ P → r ∈ P → x ∈ q → x ∈ r → q = r
  | [], _, _, _, _, h, _, _, _ => nomatch h
  | s :: P, nd, q, r, x, hq, hr, xq, xr => by
    rw [List.flatten_cons] at nd
    obtain ⟨_, n2, n3⟩ := List.nodup_append.mp nd
    rcases List.mem_cons.mp hq with e | e <;> rcases List.mem_cons.mp hr with e' | e'
    · rw [e, e']
    · rw [e] at xq
      exact (n3 x xq x (List.mem_flatten.mpr ⟨r, e', xr⟩) rfl).elim
    · rw [e'] at xr
      exact (n3 x xr x (List.mem_flatten.mpr ⟨q, e, xq⟩) rfl).elim
    · exact flat_eq n2 e e' xq xr
structure MI (t : Tr) (p : Int) (pre : List Tie) (P : List (List Int)) : Prop where
  nd : P.flatten.Nodup
  ne : ∀ q ∈ P, q ≠ []
  rg : ∀ x, x ∈ P.flatten ↔ (0 ≤ x ∧ x < (t.1.length : Int)) ∧ x ≠ p
  cn : ∀ q ∈ P, ∀ x ∈ q, ∀ y ∈ q, Cn ((t.1, pre) : Tr) p x y
  cl : ∀ z ∈ pre, z.a ≠ p → z.b ≠ p → ∃ q ∈ P, z.a ∈ q ∧ z.b ∈ q
theorem flat_nd : ∀ {P : List (List Int)}, P.flatten.Nodup → ∀ {q : List Int}, q ∈ P → q.Nodup
  | [], _, _, h => nomatch h
  | s :: P, nd, q, h => by
    rw [List.flatten_cons] at nd
    obtain ⟨n1, n2, _⟩ := List.nodup_append.mp nd
    rcases List.mem_cons.mp h with e | e
    · rw [e]; exact n1
    · exact flat_nd n2 e
theorem flat_len : ∀ {P : List (List Int)}, (∀ q ∈ P, q ≠ []) → P.length ≤ P.flatten.length
  | [], _ => Nat.le_refl _
  | q :: P, h => by
    have ih := flat_len (P := P) fun r hr => h r (List.mem_cons_of_mem _ hr)
    have := List.length_pos_iff.mpr (h q List.mem_cons_self)
    rw [List.flatten_cons, List.length_append, List.length_cons]
    omega
theorem mem_len {P : List (List Int)} {q : List Int} (h : q ∈ P) : q.length ≤ P.flatten.length := by
  induction P with
  | nil => exact nomatch h
  | cons r P ih =>
    rw [List.flatten_cons, List.length_append]
    rcases List.mem_cons.mp h with e | e
    · rw [e]; omega
    · have := ih e; omega
theorem MI.flen {t : Tr} {p : Int} {pre : List Tie} {P : List (List Int)} (h : MI t p pre P) : P.flatten.length ≤ t.1.length := by
  have := nd_sub_len (m := rangeL 0 (t.1.length : Int)) h.nd fun x hx => rangeL_mem.mpr ((h.rg x).mp hx).1
  rw [rangeL_length] at this
  omega
theorem MI.start (t : Tr) (p : Int) : MI t p [] (((rangeL 0 (t.1.length : Int)).filter fun x => decide (x ≠ p)).map fun x => [x]) := by
  have ef : ∀ l : List Int, (l.map fun x => [x]).flatten = l := fun l => by
    induction l with
    | nil => rfl
    | cons x l ih => rw [List.map_cons, List.flatten_cons, ih]; rfl
  refine ⟨?_, fun q hq => ?_, fun x => ?_, fun q hq x hx y hy => ?_, fun _ h => nomatch h⟩
  · rw [ef]; exact (rangeL_nodup _ _).filter _
  · obtain ⟨x, _, rfl⟩ := List.mem_map.mp hq
    exact fun z => nomatch z
  · rw [ef, List.mem_filter, rangeL_mem]
    exact ⟨fun z => ⟨z.1, of_decide_eq_true z.2⟩, fun z => ⟨z.1, decide_eq_true z.2⟩⟩
  · obtain ⟨w, _, rfl⟩ := List.mem_map.mp hq
    rw [List.mem_singleton.mp hx, List.mem_singleton.mp hy]
    exact Cn.me w
theorem MI.keep {t : Tr} {p : Int} {pre : List Tie} {P : List (List Int)} (h : MI t p pre P) {z : Tie} (hz : z.a = p ∨ z.b = p) : MI t p (pre ++ [z]) P where
  nd := h.nd
  ne := h.ne
  rg := h.rg
  cn := fun q hq x hx y hy => (h.cn q hq x hx y hy).more fun a b l ⟨w, hw, k⟩ => ⟨w, List.mem_append_left _ hw, k⟩
  cl := fun w hw k1 k2 => by
    rcases List.mem_append.mp hw with hw | hw
    · exact h.cl w hw k1 k2
    · rw [List.mem_singleton.mp hw] at k1 k2
      rcases hz with e | e
      · exact (k1 e).elim
      · exact (k2 e).elim
theorem MI.join {t : Tr} (ht : TreeOk t) {p : Int} {pre post : List Tie} {z : Tie} (e : t.2 = pre ++ z :: post) {P : List (List Int)} (h : MI t p pre P) (ka : z.a ≠ p) (kb : z.b ≠ p) {A B : List Int} (hA : A ∈ P) (hB : B ∈ P) (a1 : z.a ∈ A) (b1 : z.b ∈ B) :
    B ∈ remL P A ∧ MI t p (pre ++ [z]) (remL (remL P A) B ++ [A ++ B]) := by
  have hne : A ≠ B := fun k => no_loop ht e (h.cn A hA z.a a1 z.b (by rw [k]; exact b1))
  have pA := rem_perm hA
  have hB2 : B ∈ remL P A := by
    rcases List.mem_cons.mp (pA.mem_iff.mp hB) with k | k
    · exact (hne k.symm).elim
    · exact k
  have pB := rem_perm hB2
  have pP : P.Perm (A :: B :: remL (remL P A) B) := pA.trans (pB.cons A)
  have pf : (remL (remL P A) B ++ [A ++ B]).flatten.Perm P.flatten := by
    refine List.Perm.trans ?_ pP.flatten.symm
    rw [List.flatten_append, List.flatten_cons, List.flatten_cons, List.flatten_cons, List.flatten_nil, List.append_nil, ← List.append_assoc A B]
    exact List.perm_append_comm
  have hm : ∀ q, q ∈ P → q = A ∨ q = B ∨ q ∈ remL (remL P A) B := fun q hq => by
    rcases List.mem_cons.mp (pP.mem_iff.mp hq) with k | k
    · exact .inl k
    · rcases List.mem_cons.mp k with k | k
      · exact .inr (.inl k)
      · exact .inr (.inr k)
  have hm2 : ∀ q, q ∈ remL (remL P A) B → q ∈ P := fun q hq => pP.mem_iff.mpr (List.mem_cons_of_mem _ (List.mem_cons_of_mem _ hq))
  have up : ∀ {x y}, Cn ((t.1, pre) : Tr) p x y → Cn ((t.1, pre ++ [z]) : Tr) p x y := fun k => k.more fun a b l ⟨w, hw, k⟩ => ⟨w, List.mem_append_left _ hw, k⟩
  have stp : Step ((t.1, pre ++ [z]) : Tr) z.a z.b z.c := ⟨z, List.mem_append_right _ (List.mem_singleton.mpr rfl), .inl ⟨rfl, rfl⟩, rfl⟩
  have inr : ∀ q ∈ P, ∀ x ∈ q, x ≠ p := fun q hq x hx => ((h.rg x).mp (List.mem_flatten.mpr ⟨q, hq, hx⟩)).2
  have ab : ∀ x ∈ A, ∀ y ∈ B, Cn ((t.1, pre ++ [z]) : Tr) p x y := fun x hx y hy =>
    ((up (h.cn A hA x hx z.a a1)).trans (Cn.on (Cn.me _) stp kb)).trans (up (h.cn B hB z.b b1 y hy))
  refine ⟨hB2, pf.nodup_iff.mpr h.nd, fun q hq => ?_, fun x => (pf.mem_iff).trans (h.rg x), fun q hq x hx y hy => ?_, fun w hw k1 k2 => ?_⟩
  · rcases List.mem_append.mp hq with k | k
    · exact h.ne q (hm2 q k)
    · rw [List.mem_singleton.mp k]
      exact fun z => h.ne A hA (List.append_eq_nil_iff.mp z).1
  · rcases List.mem_append.mp hq with k | k
    · exact up (h.cn q (hm2 q k) x hx y hy)
    · rw [List.mem_singleton.mp k] at hx hy
      rcases List.mem_append.mp hx with hx | hx <;> rcases List.mem_append.mp hy with hy | hy
      · exact up (h.cn A hA x hx y hy)
      · exact ab x hx y hy
      · exact (ab y hy x hx).sym (inr A hA y hy)
      · exact up (h.cn B hB x hx y hy)
  · rcases List.mem_append.mp hw with k | k
    · obtain ⟨q, hq, q1, q2⟩ := h.cl w k k1 k2
      rcases hm q hq with e | e | e
      · exact ⟨A ++ B, by simp, List.mem_append_left _ (by rw [← e]; exact q1), List.mem_append_left _ (by rw [← e]; exact q2)⟩
      · exact ⟨A ++ B, by simp, List.mem_append_right _ (by rw [← e]; exact q1), List.mem_append_right _ (by rw [← e]; exact q2)⟩
      · exact ⟨q, List.mem_append_left _ e, q1, q2⟩
    · rw [List.mem_singleton.mp k]
      exact ⟨A ++ B, by simp, List.mem_append_left _ a1, List.mem_append_right _ b1⟩
theorem MI.part {t : Tr} {p : Int} {P : List (List Int)} (h : MI t p t.2 P) {q : List Int} (hq : q ∈ P) {x : Int} (hx : x ∈ q) : PtSet t p x q := by
  have nq : q.Nodup := flat_nd h.nd hq
  refine ⟨nq, fun y => ⟨fun hy => h.cn q hq x hx y hy, fun hy => ?_⟩⟩
  have xp := ((h.rg x).mp (List.mem_flatten.mpr ⟨q, hq, hx⟩)).2
  induction hy with
  | me => exact hx
  | @on y w l h1 hs hz ih =>
    have yp := h1.ne xp
    have iy := ih
    obtain ⟨z, hzt, hh, _⟩ := hs
    rcases hh with ⟨e1, e2⟩ | ⟨e1, e2⟩
    · obtain ⟨r, hr, r1, r2⟩ := h.cl z hzt (by rw [e1]; exact yp) (by rw [e2]; exact hz)
      rw [e1] at r1
      rw [e2] at r2
      rw [flat_eq h.nd hq hr iy r1]
      exact r2
    · obtain ⟨r, hr, r1, r2⟩ := h.cl z hzt (by rw [e1]; exact hz) (by rw [e2]; exact yp)
      rw [e1] at r1
      rw [e2] at r2
      rw [flat_eq h.nd hq hr iy r2]
      exact r1
theorem PtSet.len {t : Tr} {p q : Int} {fs gs : List Int} (h : PtSet t p q fs) (h2 : PtSet t p q gs) : fs.length = gs.length :=
  ((List.perm_ext_iff_of_nodup h.nd h2.nd).mpr fun x => (h.mem x).trans (h2.mem x).symm).length_eq
theorem greatest_ok (t : Tr) (ht : TreeOk t) (hn : t.1.length ≤ 100000) {p g : Int} (p0 : 0 ≤ p) (p1 : p < (t.1.length : Int)) (hg : IsG t p g) : m_law_greatest t p = .ok g := by
  have hlen := ht.len
  unfold m_law_greatest
  rw [chk_b (show okR (t.1.length : Int) from ⟨by omega, by omega⟩)]
  have e0 : compS (fun (y14 : Int) (st32 : Unit) =>
      if y14 ≠ p then (
      .ok (some ([y14]), ()))
      else (
      .ok (none, ()))) (rangeL 0 (t.1.length : Int)) () = .ok (((rangeL 0 (t.1.length : Int)).filter fun x => decide (x ≠ p)).map fun x => [x], ()) := by
    rw [compS_pure (fun y => if y ≠ p then some [y] else none) (by rw [rangeL_length]; omega) fun y hy => by
      by_cases c : y ≠ p
      · rw [if_pos c, if_pos c]
      · rw [if_neg c, if_neg c]]
    refine congrArg (fun z => Except.ok (z, ())) ?_
    generalize rangeL 0 (t.1.length : Int) = l
    induction l with
    | nil => rfl
    | cons x l ih =>
      by_cases c : x ≠ p
      · rw [List.filterMap_cons_some (f := fun y => if y ≠ p then some [y] else none) (show (if x ≠ p then some [x] else none) = some [x] from if_pos c), List.filter_cons_of_pos (p := fun x => decide (x ≠ p)) (show decide (x ≠ p) = true from decide_eq_true c), List.map_cons, ih]
      · rw [List.filterMap_cons_none (f := fun y => if y ≠ p then some [y] else none) (show (if x ≠ p then some [x] else none) = none from if_neg c), List.filter_cons_of_neg (p := fun x => decide (x ≠ p)) (show ¬ decide (x ≠ p) = true from fun z => c (of_decide_eq_true z)), ih]
  refine (bind_ok e0 _).trans ?_
  obtain ⟨P, e, hP⟩ := loopN_run (f := fun (y62 : (T3 Int Int Int)) (st73 : (List (List Int))) =>
    if p ∉ ([(y62.a, y62.b).1, (y62.a, y62.b).2]) then (
    compS (fun (y109 : (List Int)) (st126 : Unit) =>
    if y62.a ∈ y109 then (
    .ok (some y109, ()))
    else (
    .ok (none, ()))) st73 () >>= fun q149 =>
    opt (L2.atI q149.1 (0 : Int)) >>= fun y160 =>
    compS (fun (y165 : (List Int)) (st182 : Unit) =>
    if y62.b ∈ y165 then (
    .ok (some y165, ()))
    else (
    .ok (none, ()))) st73 () >>= fun q205 =>
    opt (L2.atI q205.1 (0 : Int)) >>= fun y216 =>
    chk (y160 ∈ st73) >>= fun _ =>
    chk (y216 ∈ (remL st73 y160)) >>= fun _ =>
    chk (y160.length + y216.length < 16777216) >>= fun _ =>
    appL (remL (remL st73 y160) y216) (y160 ++ y216) >>= fun _ =>
    .ok ((remL (remL st73 y160) y216) ++ [(y160 ++ y216)]))
    else (
    (.ok st73 : M _))) (all := t.2) (x := ((rangeL 0 (t.1.length : Int)).filter fun x => decide (x ≠ p)).map fun x => [x]) (fun pre st => MI t p pre st) (MI.start t p) fun pre z post P ea h => by
      have hz : z ∈ t.2 := by rw [ea]; simp
      have hzt := ht.tie z hz
      by_cases c : p ∉ ([(z.a, z.b).1, (z.a, z.b).2])
      · have ka : z.a ≠ p := fun k => c (by rw [← k]; simp)
        have kb : z.b ≠ p := fun k => c (by rw [← k]; simp)
        have fl := h.flen
        have pl := flat_len h.ne
        have pick : ∀ x, ((0 ≤ x ∧ x < (t.1.length : Int)) ∧ x ≠ p) → ∃ L A, compS (fun (y109 : (List Int)) (st126 : Unit) =>
            if x ∈ y109 then (
            .ok (some y109, ()))
            else (
            .ok (none, ()))) P () = .ok (L, ()) ∧ L2.atI L (0 : Int) = some A ∧ A ∈ P ∧ x ∈ A := fun x hx => by
          have hL := compS_pure (f := fun (y109 : (List Int)) (st126 : Unit) =>
            if x ∈ y109 then (
            .ok (some y109, ()))
            else (
            .ok (none, ()))) (all := P) (fun q => if x ∈ q then some q else none) (by omega) fun q hq => by
              by_cases c : x ∈ q
              · rw [if_pos c, if_pos c]
              · rw [if_neg c, if_neg c]
          obtain ⟨q, hq, xq⟩ := List.mem_flatten.mp ((h.rg x).mpr hx)
          have hm : q ∈ P.filterMap fun q => if x ∈ q then some q else none := List.mem_filterMap.mpr ⟨q, hq, if_pos xq⟩
          obtain ⟨A, a1, a2⟩ := atI_some (xs := P.filterMap fun q => if x ∈ q then some q else none) (j := 0) (by decide) (by have := List.length_pos_iff.mpr (List.ne_nil_of_mem hm); omega)
          obtain ⟨r, hr, e⟩ := List.mem_filterMap.mp (List.mem_of_getElem? a2)
          by_cases c : x ∈ r
          · rw [if_pos c] at e
            have e := Option.some.inj e
            rw [← e] at a1
            exact ⟨_, r, hL, a1, hr, c⟩
          · rw [if_neg c] at e; exact nomatch e
        obtain ⟨LA, A, f1, f2, f3, f4⟩ := pick z.a ⟨⟨by omega, by omega⟩, ka⟩
        obtain ⟨LB, B, g1, g2, g3, g4⟩ := pick z.b ⟨⟨by omega, by omega⟩, kb⟩
        obtain ⟨j1, j2⟩ := h.join ht ea ka kb f3 g3 f4 g4
        have la := mem_len f3
        have lb := mem_len g3
        have l3 := (rem_perm f3).length_eq
        have l4 := (rem_perm j1).length_eq
        rw [List.length_cons] at l3 l4
        refine ⟨_, ?_, j2⟩
        show (if p ∉ ([(z.a, z.b).1, (z.a, z.b).2]) then _ else _) = _
        rw [if_pos c]
        refine (bind_ok f1 _).trans ?_
        rw [opt_b f2]
        refine (bind_ok g1 _).trans ?_
        rw [opt_b g2, chk_b f3, chk_b j1, chk_b (by omega), bind_ok (appL_ok (by omega))]
      · refine ⟨P, ?_, h.keep ?_⟩
        · show (if p ∉ ([(z.a, z.b).1, (z.a, z.b).2]) then _ else _) = _
          rw [if_neg c]
        · by_cases c1 : z.a = p
          · exact .inl c1
          · refine .inr ?_
            by_cases c2 : z.b = p
            · exact c2
            · refine (c fun hm => ?_).elim
              simp only [List.mem_cons, List.not_mem_nil, or_false] at hm
              rcases hm with k | k
              · exact c1 k.symm
              · exact c2 k.symm
  refine (bind_ok e _).trans ?_
  have fl := hP.flen
  have pl := flat_len hP.ne
  rw [bind_ok (compS_pure (fun (y : List Int) => some (y.length : Int)) (by omega) fun y hy => rfl)]
  rw [List.filterMap_eq_map']
  rw [chk_b (by show 1 + (P.map _).length < _; rw [List.length_map]; omega)]
  obtain ⟨m, hm⟩ := mxI_some (xs := ([(0 : Int)]) ++ P.map fun y => (y.length : Int)) (by simp)
  refine (opt_b hm _).trans (congrArg Except.ok ?_)
  obtain ⟨m1, m2⟩ := mxI_is hm
  have up : g ≤ m := by
    rcases hg.is with ⟨k, _⟩ | ⟨q, hq, fs, f1, f2⟩
    · rw [k]; exact m2 0 (by simp)
    · obtain ⟨l, hs⟩ := (near_step ht).mp hq
      have rg := step_rg ht hs
      obtain ⟨r, hr, qr⟩ := List.mem_flatten.mp ((hP.rg q).mpr ⟨rg.2.1, rg.2.2.symm⟩)
      have := f1.len (hP.part hr qr)
      rw [← f2, this]
      exact m2 _ (List.mem_append_right _ (List.mem_map.mpr ⟨r, hr, rfl⟩))
  have g0 : 0 ≤ g := by
    rcases hg.is with ⟨k, _⟩ | ⟨q, hq, fs, f1, f2⟩
    · omega
    · omega
  have dn : m ≤ g := by
    rcases List.mem_append.mp m1 with k | k
    · rw [List.mem_singleton.mp k]; exact g0
    · obtain ⟨r, hr, e⟩ := List.mem_map.mp k
      obtain ⟨x, hx⟩ := List.exists_mem_of_ne_nil r (hP.ne r hr)
      have rx := (hP.rg x).mp (List.mem_flatten.mpr ⟨r, hr, hx⟩)
      obtain ⟨d, ps, hw, nd⟩ := dist_all ht p0 p1 x rx.1.1 rx.1.2
      cases hw with
      | one => exact (rx.2 rfl).elim
      | @cons _ q _ l d' qs hs hw2 =>
        have nd := List.nodup_cons.mp nd
        have hc : Cn t p q x := hw2.cn fun z => nd.1 (List.mem_cons_of_mem _ z)
        have qp : q ≠ p := fun e => nd.1 (by rw [e]; exact List.mem_cons_self)
        have h1 := hP.part hr hx
        have h2 : PtSet t p q r := ⟨h1.nd, fun y => (h1.mem y).trans ⟨fun k => hc.trans k, fun k => (hc.sym qp).trans k⟩⟩
        obtain ⟨fs, f1, f2⟩ := hg.up q ((near_step ht).mpr ⟨_, hs⟩)
        have := f1.len h2
        omega
  omega

theorem leastI {b : Type} {xs L : List Int} (h : m_places_of_least xs = .ok L) (K : List Int → M b) : (chk (okR (xs.length : Int)) >>= fun _ =>
    compS (fun (y400 : Int) (st418 : Unit) =>
    opt (L2.atI xs y400) >>= fun y427 =>
    opt (mnI xs) >>= fun y437 =>
    if y427 = y437 then (
    .ok (some y400, ()))
    else (
    .ok (none, ()))) (rangeL 0 (xs.length : Int)) () >>= fun q455 => K q455.1) = K L := by
  unfold m_places_of_least at h
  obtain ⟨u, h1, h2⟩ := b_inv h
  obtain ⟨q, h3, h4⟩ := b_inv h2
  refine (bind_ok h1 _).trans ?_
  refine (bind_ok h3 _).trans ?_
  rw [show q.1 = L from Except.ok.inj h4]
def tail46 (r : Tr) : M Bool :=
  chk (okR (r.1.length : Int)) >>= fun _ =>
  compS (fun (y350 : Int) (st368 : Unit) =>
  m_law_greatest r y350 >>= fun r372 =>
  .ok (some r372, ())) (rangeL 0 (r.1.length : Int)) () >>= fun q389 =>
  chk (okR (q389.1.length : Int)) >>= fun _ =>
  compS (fun (y400 : Int) (st418 : Unit) =>
  opt (L2.atI q389.1 y400) >>= fun y427 =>
  opt (mnI q389.1) >>= fun y437 =>
  if y427 = y437 then (
  .ok (some y400, ()))
  else (
  .ok (none, ()))) (rangeL 0 (q389.1.length : Int)) () >>= fun q455 =>
  m_law_copy r >>= fun r461 =>
  m_balance r461 >>= fun r470 =>
  m_law_alike_1 r470 q455.1 >>= fun r487 =>
  if r487 = true then (
  appL r470 (0 : Int) >>= fun _ =>
  m_balance r461 >>= fun r498 =>
  m_law_alike_1 r498 q455.1 >>= fun r517 =>
  if r517 = true then (
  .ok (decide (r461 = r)))
  else (
  .ok false))
  else (
  .ok false)
theorem tail46_ok (t : Tr) (ht : TreeOk t) (hn : t.1.length ≤ 100000) : tail46 t = .ok true := by
  obtain ⟨G, g1, g2⟩ := balance_ok t ht hn
  obtain ⟨L, l1, l2⟩ := least_ok ((rangeL 0 (t.1.length : Int)).map G) (by rw [List.length_map, rangeL_length]; omega)
  rw [List.length_map, rangeL_length] at l2
  have g3 : m_balance t = .ok L := by rw [g1, l1]
  have al : m_law_alike_1 L L = .ok true := by rw [alike1_ok L L (by omega)]; exact congrArg Except.ok (decide_eq_true rfl)
  unfold tail46
  rw [chk_b (show okR (t.1.length : Int) from ⟨by omega, by omega⟩)]
  rw [bind_ok (compS_pure (fun y => some (G y)) (by rw [rangeL_length]; omega) fun y hy => by
    have hy := rangeL_mem.mp hy
    rw [bind_ok (greatest_ok t ht hn hy.1 hy.2 (g2 y hy.1 hy.2))])]
  rw [List.filterMap_eq_map']
  refine (leastI l1 (fun q => m_law_copy t >>= fun r461 =>
    m_balance r461 >>= fun r470 =>
    m_law_alike_1 r470 q >>= fun r487 =>
    if r487 = true then (
    appL r470 (0 : Int) >>= fun _ =>
    m_balance r461 >>= fun r498 =>
    m_law_alike_1 r498 q >>= fun r517 =>
    if r517 = true then (
    .ok (decide (r461 = t)))
    else (
    .ok false))
    else (
    .ok false))).trans ?_
  rw [bind_ok (show m_law_copy t = .ok t from rfl), bind_ok g3, bind_ok al, if_pos rfl, bind_ok (appL_ok (by omega)), bind_ok g3, bind_ok al, if_pos rfl]
  exact congrArg Except.ok (decide_eq_true rfl)
theorem law_true (ns : List Int) (h : ns.length ≤ 63) : m_law ns = .ok true := by
  obtain ⟨t, e1, ht, hl, _, hb⟩ := tree_ok ns 9 (by decide) (by decide)
  have hpos := ht.pos
  obtain ⟨c, e3⟩ := cell_ok ns 2 (by decide)
  obtain ⟨ds, e4, dl, db⟩ := digits_ok c 2 720720 (by decide) (by decide) (by decide) (by decide)
  obtain ⟨d0, x0, _⟩ := at_in (xs := ds) (k := 0) (by decide) (by omega)
  obtain ⟨d1, x1, _⟩ := at_in (xs := ds) (k := 1) (by decide) (by omega)
  unfold m_law
  rw [bind_ok e1, bind_ok e3, bind_ok e4, opt_b x0, chk_b (by decide)]
  by_cases c3 : d0 % 4 = 3
  · rw [if_pos c3, chk_b (show okR (1 : Int) from ⟨by decide, by decide⟩), chk_b (show okR (t.1.length : Int) from ⟨by omega, by omega⟩)]
    obtain ⟨g, hg, hs⟩ : ∃ g : Int → Int, (∀ k, L2.atI ([(k - (1 : Int)), (0 : Int)]) (d1 % (2 : Int)) = some (g k)) ∧ (g = (fun k => k - 1) ∨ g = fun _ => 0) := by
      have : d1 % 2 = 0 ∨ d1 % 2 = 1 := by omega
      rcases this with e | e
      · exact ⟨fun k => k - 1, fun k => by rw [e]; rfl, .inl rfl⟩
      · exact ⟨fun k => 0, fun k => by rw [e]; rfl, .inr rfl⟩
    have ec : compS (fun (y58 : Int) (st77 : Unit) =>
        opt (L2.atI ds (1 : Int)) >>= fun y94 =>
        chk (0 < (2 : Int)) >>= fun _ =>
        opt (L2.atI ([(y58 - (1 : Int)), (0 : Int)]) (y94 % (2 : Int))) >>= fun y105 =>
        opt (L2.atI ds (1 : Int)) >>= fun y115 =>
        chk (0 < (3 : Int)) >>= fun _ =>
        .ok (some (T3.mk y105 y58 ((1 : Int) - (y115 % (3 : Int)))), ())) (rangeL (1 : Int) (t.1.length : Int)) () = .ok (plainTs g (1 - d1 % 3) t.1.length, ()) := by
      rw [compS_pure (fun k => some (T3.mk (g k) k (1 - d1 % 3))) (by rw [rangeL_length]; omega) fun y hy => by
        rw [opt_b x1, chk_b (by decide), opt_b (hg y), opt_b x1, chk_b (by decide)]]
      rw [List.filterMap_eq_map']
      rfl
    refine (bind_ok ec _).trans ?_
    exact tail46_ok (t.1, plainTs g (1 - d1 % 3) t.1.length) (plain_tree t.1 _ (fun k hk => by
      rcases hs with e | e
      · rw [e]; show 0 ≤ k - 1 ∧ k - 1 < k; omega
      · rw [e]; show (0 : Int) ≤ 0 ∧ 0 < k; omega) (fun j k h => by
      rcases hs with e | e
      · rw [e]; show j - 1 ≤ k - 1; omega
      · rw [e]; exact Int.le_refl 0) hpos) (by show t.1.length ≤ _; omega)
  · rw [if_neg c3]
    exact tail46_ok t ht (by omega)

theorem all_mk {P : Program} {w : World} {K : PySem.W.Frag} {h : Heap} {mg : Str → Option Value} {fa f1 f2 f3 f4 f5 f6 f7 f8 f9 f10 f11 f12 f13 f14 f15 C_NoPlace : Addr} {od1 an1 od2 an2 od3 an3 od4 an4 od5 an5 od6 an6 od7 an7 od8 an8 od9 an9 od10 an10 od11 an11 od12 an12 od13 an13 od14 an14 od15 an15 : Option Addr} {sl1 sl2 sl3 sl4 sl5 sl6 sl7 sl8 sl9 sl10 sl11 sl12 sl13 sl14 sl15 : Array (Option Value)} {oc1 kV1 dc1 pm1 cd1 ct1 oc2 kV2 dc2 pm2 cd2 ct2 oc3 kV3 dc3 pm3 cd3 ct3 oc4 kV4 dc4 pm4 cd4 ct4 oc5 kV5 dc5 pm5 cd5 ct5 oc6 kV6 dc6 pm6 cd6 ct6 oc7 kV7 dc7 pm7 cd7 ct7 oc8 kV8 dc8 pm8 cd8 ct8 oc9 kV9 dc9 pm9 cd9 ct9 oc10 kV10 dc10 pm10 cd10 ct10 oc11 kV11 dc11 pm11 cd11 ct11 oc12 kV12 dc12 pm12 cd12 ct12 oc13 kV13 dc13 pm13 cd13 ct13 oc14 kV14 dc14 pm14 cd14 ct14 oc15 kV15 dc15 pm15 cd15 ct15 : Value} (X : K.In h) (G : h.Ns mainGlobals mg) (hfa : mg "law" = some (.ref fa))
    (a1 : PySem.W.nsIn K mainGlobals "tied_places" = some (some (.ref f1))) (l1 : K.lookup f1 = some ⟨oc1, od1, .func (PySem.W.fnOf "tied_places" "tied_places" (defArgs s_tied_places) (defBody s_tied_places) (defScope s_tied_places) .none kV1 dc1 pm1 an1 cd1 ct1), sl1⟩) (c1 : PySem.W.codeIn K cd1 "tied_places" = true) (k1 : PySem.W.keepIn K (.ref f1) = true)
    (a2 : PySem.W.nsIn K mainGlobals "need_place" = some (some (.ref f2))) (l2 : K.lookup f2 = some ⟨oc2, od2, .func (PySem.W.fnOf "need_place" "need_place" (defArgs s_need_place) (defBody s_need_place) (defScope s_need_place) .none kV2 dc2 pm2 an2 cd2 ct2), sl2⟩) (c2 : PySem.W.codeIn K cd2 "need_place" = true) (k2 : PySem.W.keepIn K (.ref f2) = true)
    (a3 : PySem.W.nsIn K mainGlobals "tied_to" = some (some (.ref f3))) (l3 : K.lookup f3 = some ⟨oc3, od3, .func (PySem.W.fnOf "tied_to" "tied_to" (defArgs s_tied_to) (defBody s_tied_to) (defScope s_tied_to) .none kV3 dc3 pm3 an3 cd3 ct3), sl3⟩) (c3 : PySem.W.codeIn K cd3 "tied_to" = true) (k3 : PySem.W.keepIn K (.ref f3) = true)
    (a4 : PySem.W.nsIn K mainGlobals "places_of_least" = some (some (.ref f4))) (l4 : K.lookup f4 = some ⟨oc4, od4, .func (PySem.W.fnOf "places_of_least" "places_of_least" (defArgs s_places_of_least) (defBody s_places_of_least) (defScope s_places_of_least) .none kV4 dc4 pm4 an4 cd4 ct4), sl4⟩) (c4 : PySem.W.codeIn K cd4 "places_of_least" = true) (k4 : PySem.W.keepIn K (.ref f4) = true)
    (a5 : PySem.W.nsIn K mainGlobals "part_size" = some (some (.ref f5))) (l5 : K.lookup f5 = some ⟨oc5, od5, .func (PySem.W.fnOf "part_size" "part_size" (defArgs s_part_size) (defBody s_part_size) (defScope s_part_size) .none kV5 dc5 pm5 an5 cd5 ct5), sl5⟩) (c5 : PySem.W.codeIn K cd5 "part_size" = true) (k5 : PySem.W.keepIn K (.ref f5) = true)
    (a6 : PySem.W.nsIn K mainGlobals "balance" = some (some (.ref f6))) (l6 : K.lookup f6 = some ⟨oc6, od6, .func (PySem.W.fnOf "balance" "balance" (defArgs s_balance) (defBody s_balance) (defScope s_balance) .none kV6 dc6 pm6 an6 cd6 ct6), sl6⟩) (c6 : PySem.W.codeIn K cd6 "balance" = true) (k6 : PySem.W.keepIn K (.ref f6) = true)
    (a7 : PySem.W.nsIn K mainGlobals "_law_cell_at" = some (some (.ref f7))) (l7 : K.lookup f7 = some ⟨oc7, od7, .func (PySem.W.fnOf "_law_cell_at" "_law_cell_at" (defArgs s_law_cell_at) (defBody s_law_cell_at) (defScope s_law_cell_at) .none kV7 dc7 pm7 an7 cd7 ct7), sl7⟩) (c7 : PySem.W.codeIn K cd7 "_law_cell_at" = true) (k7 : PySem.W.keepIn K (.ref f7) = true)
    (a8 : PySem.W.nsIn K mainGlobals "_law_digits" = some (some (.ref f8))) (l8 : K.lookup f8 = some ⟨oc8, od8, .func (PySem.W.fnOf "_law_digits" "_law_digits" (defArgs s_law_digits) (defBody s_law_digits) (defScope s_law_digits) .none kV8 dc8 pm8 an8 cd8 ct8), sl8⟩) (c8 : PySem.W.codeIn K cd8 "_law_digits" = true) (k8 : PySem.W.keepIn K (.ref f8) = true)
    (a9 : PySem.W.nsIn K mainGlobals "_law_alike" = some (some (.ref f9))) (l9 : K.lookup f9 = some ⟨oc9, od9, .func (PySem.W.fnOf "_law_alike" "_law_alike" (defArgs s_law_alike_0) (defBody s_law_alike_0) (defScope s_law_alike_0) .none kV9 dc9 pm9 an9 cd9 ct9), sl9⟩) (c9 : PySem.W.codeIn K cd9 "_law_alike" = true) (k9 : PySem.W.keepIn K (.ref f9) = true)
    (a10 : PySem.W.nsIn K mainGlobals "_law_alike" = some (some (.ref f10))) (l10 : K.lookup f10 = some ⟨oc10, od10, .func (PySem.W.fnOf "_law_alike" "_law_alike" (defArgs s_law_alike_1) (defBody s_law_alike_1) (defScope s_law_alike_1) .none kV10 dc10 pm10 an10 cd10 ct10), sl10⟩) (c10 : PySem.W.codeIn K cd10 "_law_alike" = true) (k10 : PySem.W.keepIn K (.ref f10) = true)
    (a11 : PySem.W.nsIn K mainGlobals "_law_number" = some (some (.ref f11))) (l11 : K.lookup f11 = some ⟨oc11, od11, .func (PySem.W.fnOf "_law_number" "_law_number" (defArgs s_law_number) (defBody s_law_number) (defScope s_law_number) .none kV11 dc11 pm11 an11 cd11 ct11), sl11⟩) (c11 : PySem.W.codeIn K cd11 "_law_number" = true) (k11 : PySem.W.keepIn K (.ref f11) = true)
    (a12 : PySem.W.nsIn K mainGlobals "_law_tree" = some (some (.ref f12))) (l12 : K.lookup f12 = some ⟨oc12, od12, .func (PySem.W.fnOf "_law_tree" "_law_tree" (defArgs s_law_tree) (defBody s_law_tree) (defScope s_law_tree) .none kV12 dc12 pm12 an12 cd12 ct12), sl12⟩) (c12 : PySem.W.codeIn K cd12 "_law_tree" = true) (k12 : PySem.W.keepIn K (.ref f12) = true)
    (a13 : PySem.W.nsIn K mainGlobals "_law_copy" = some (some (.ref f13))) (l13 : K.lookup f13 = some ⟨oc13, od13, .func (PySem.W.fnOf "_law_copy" "_law_copy" (defArgs s_law_copy) (defBody s_law_copy) (defScope s_law_copy) .none kV13 dc13 pm13 an13 cd13 ct13), sl13⟩) (c13 : PySem.W.codeIn K cd13 "_law_copy" = true) (k13 : PySem.W.keepIn K (.ref f13) = true)
    (a14 : PySem.W.nsIn K mainGlobals "_law_greatest" = some (some (.ref f14))) (l14 : K.lookup f14 = some ⟨oc14, od14, .func (PySem.W.fnOf "_law_greatest" "_law_greatest" (defArgs s_law_greatest) (defBody s_law_greatest) (defScope s_law_greatest) .none kV14 dc14 pm14 an14 cd14 ct14), sl14⟩) (c14 : PySem.W.codeIn K cd14 "_law_greatest" = true) (k14 : PySem.W.keepIn K (.ref f14) = true)
    (a15 : PySem.W.nsIn K mainGlobals "law" = some (some (.ref f15))) (l15 : K.lookup f15 = some ⟨oc15, od15, .func (PySem.W.fnOf "law" "law" (defArgs s_law) (defBody s_law) (defScope s_law) .none kV15 dc15 pm15 an15 cd15 ct15), sl15⟩) (c15 : PySem.W.codeIn K cd15 "law" = true) (k15 : PySem.W.keepIn K (.ref f15) = true)
    (ga_NoPlace : PySem.W.nsIn K mainGlobals "NoPlace" = some (some (.ref C_NoPlace))) (gx_NoPlace : PySem.W.excIn K C_NoPlace [.type "ValueError", .type "Exception", .type "BaseException", .type "object"] "ValueError.__new__" = true) (gk_NoPlace : PySem.W.keepIn K (.ref C_NoPlace) = true) (gb_NoPlace : PySem.W.subIn K (.ref C_NoPlace) (.type "BaseException") = some true) (gt_NoPlace : PySem.W.typeIn K (.ref C_NoPlace) = some (.type "type"))
    (z_bool : PySem.W.nsIn K mainGlobals "bool" = some none)
    (z_int : PySem.W.nsIn K mainGlobals "int" = some none)
    (z_isinstance : PySem.W.nsIn K mainGlobals "isinstance" = some none)
    (z_len : PySem.W.nsIn K mainGlobals "len" = some none)
    (z_list : PySem.W.nsIn K mainGlobals "list" = some none)
    (z_max : PySem.W.nsIn K mainGlobals "max" = some none)
    (z_min : PySem.W.nsIn K mainGlobals "min" = some none)
    (z_range : PySem.W.nsIn K mainGlobals "range" = some none)
    (z_sorted : PySem.W.nsIn K mainGlobals "sorted" = some none)
    (z_str : PySem.W.nsIn K mainGlobals "str" = some none)
    (z_tuple : PySem.W.nsIn K mainGlobals "tuple" = some none) :
    ∃ fd : FuncData, (∀ (s : Shared) (v : Value), BindsTo s fd ⟨[v], []⟩ [("script", v)]) ∧ ∀ base : Heap, K.In base → base.Ns mainGlobals mg → FnOk P w K mg base (L2.CX P w) 5 fa fd ["script"] (sp_law K) := by
  have e := hfa.symm.trans (PySem.W.mg_of X G a15)
  cases e
  have nb : Nb mg := ⟨PySem.W.mg_none_of X G z_bool, PySem.W.mg_none_of X G z_int, PySem.W.mg_none_of X G z_isinstance, PySem.W.mg_none_of X G z_len, PySem.W.mg_none_of X G z_list, PySem.W.mg_none_of X G z_max, PySem.W.mg_none_of X G z_min, PySem.W.mg_none_of X G z_range, PySem.W.mg_none_of X G z_sorted, PySem.W.mg_none_of X G z_str, PySem.W.mg_none_of X G z_tuple⟩
  have E_NoPlace : ∃ C, Xc K mg "NoPlace" C := ⟨C_NoPlace, PySem.W.mg_of X G ga_NoPlace, gx_NoPlace, gk_NoPlace, gb_NoPlace, gt_NoPlace⟩
  have F1 := fun_mk (x := "tied_places") (st := s_tied_places) l1 c1 k1
  have D_tied_places : Df K mg "tied_places" "tied_places" s_tied_places ["many", "ties"] := ⟨_, _, F1, PySem.W.mg_of X G a1, F1.binds (ps := ["many", "ties"]) fun _ _ _ _ _ _ us hl => match us, hl with | [_, _], _ => rfl⟩
  have F2 := fun_mk (x := "need_place") (st := s_need_place) l2 c2 k2
  have D_need_place : Df K mg "need_place" "need_place" s_need_place ["tree", "place"] := ⟨_, _, F2, PySem.W.mg_of X G a2, F2.binds (ps := ["tree", "place"]) fun _ _ _ _ _ _ us hl => match us, hl with | [_, _], _ => rfl⟩
  have F3 := fun_mk (x := "tied_to") (st := s_tied_to) l3 c3 k3
  have D_tied_to : Df K mg "tied_to" "tied_to" s_tied_to ["tree", "place"] := ⟨_, _, F3, PySem.W.mg_of X G a3, F3.binds (ps := ["tree", "place"]) fun _ _ _ _ _ _ us hl => match us, hl with | [_, _], _ => rfl⟩
  have F4 := fun_mk (x := "places_of_least") (st := s_places_of_least) l4 c4 k4
  have D_places_of_least : Df K mg "places_of_least" "places_of_least" s_places_of_least ["numbers"] := ⟨_, _, F4, PySem.W.mg_of X G a4, F4.binds (ps := ["numbers"]) fun _ _ _ _ _ _ us hl => match us, hl with | [_], _ => rfl⟩
  have F5 := fun_mk (x := "part_size") (st := s_part_size) l5 c5 k5
  have D_part_size : Df K mg "part_size" "part_size" s_part_size ["tree", "place", "near"] := ⟨_, _, F5, PySem.W.mg_of X G a5, F5.binds (ps := ["tree", "place", "near"]) fun _ _ _ _ _ _ us hl => match us, hl with | [_, _, _], _ => rfl⟩
  have F6 := fun_mk (x := "balance") (st := s_balance) l6 c6 k6
  have D_balance : Df K mg "balance" "balance" s_balance ["tree"] := ⟨_, _, F6, PySem.W.mg_of X G a6, F6.binds (ps := ["tree"]) fun _ _ _ _ _ _ us hl => match us, hl with | [_], _ => rfl⟩
  have F7 := fun_mk (x := "_law_cell_at") (st := s_law_cell_at) l7 c7 k7
  have D_law_cell_at : Df K mg "_law_cell_at" "_law_cell_at" s_law_cell_at ["script", "k"] := ⟨_, _, F7, PySem.W.mg_of X G a7, F7.binds (ps := ["script", "k"]) fun _ _ _ _ _ _ us hl => match us, hl with | [_, _], _ => rfl⟩
  have F8 := fun_mk (x := "_law_digits") (st := s_law_digits) l8 c8 k8
  have D_law_digits : Df K mg "_law_digits" "_law_digits" s_law_digits ["cell", "many", "top"] := ⟨_, _, F8, PySem.W.mg_of X G a8, F8.binds (ps := ["cell", "many", "top"]) fun _ _ _ _ _ _ us hl => match us, hl with | [_, _, _], _ => rfl⟩
  have F9 := fun_mk (x := "_law_alike") (st := s_law_alike_0) l9 c9 k9
  have D_law_alike_0 : Df K mg "_law_alike" "_law_alike" s_law_alike_0 ["found", "due"] := ⟨_, _, F9, PySem.W.mg_of X G a9, F9.binds (ps := ["found", "due"]) fun _ _ _ _ _ _ us hl => match us, hl with | [_, _], _ => rfl⟩
  have F10 := fun_mk (x := "_law_alike") (st := s_law_alike_1) l10 c10 k10
  have D_law_alike_1 : Df K mg "_law_alike" "_law_alike" s_law_alike_1 ["found", "due"] := ⟨_, _, F10, PySem.W.mg_of X G a10, F10.binds (ps := ["found", "due"]) fun _ _ _ _ _ _ us hl => match us, hl with | [_, _], _ => rfl⟩
  have F11 := fun_mk (x := "_law_number") (st := s_law_number) l11 c11 k11
  have D_law_number : Df K mg "_law_number" "_law_number" s_law_number ["x"] := ⟨_, _, F11, PySem.W.mg_of X G a11, F11.binds (ps := ["x"]) fun _ _ _ _ _ _ us hl => match us, hl with | [_], _ => rfl⟩
  have F12 := fun_mk (x := "_law_tree") (st := s_law_tree) l12 c12 k12
  have D_law_tree : Df K mg "_law_tree" "_law_tree" s_law_tree ["script", "most"] := ⟨_, _, F12, PySem.W.mg_of X G a12, F12.binds (ps := ["script", "most"]) fun _ _ _ _ _ _ us hl => match us, hl with | [_, _], _ => rfl⟩
  have F13 := fun_mk (x := "_law_copy") (st := s_law_copy) l13 c13 k13
  have D_law_copy : Df K mg "_law_copy" "_law_copy" s_law_copy ["tree"] := ⟨_, _, F13, PySem.W.mg_of X G a13, F13.binds (ps := ["tree"]) fun _ _ _ _ _ _ us hl => match us, hl with | [_], _ => rfl⟩
  have F14 := fun_mk (x := "_law_greatest") (st := s_law_greatest) l14 c14 k14
  have D_law_greatest : Df K mg "_law_greatest" "_law_greatest" s_law_greatest ["tree", "without"] := ⟨_, _, F14, PySem.W.mg_of X G a14, F14.binds (ps := ["tree", "without"]) fun _ _ _ _ _ _ us hl => match us, hl with | [_, _], _ => rfl⟩
  have F15 := fun_mk (x := "law") (st := s_law) l15 c15 k15
  refine ⟨PySem.W.fnOf "law" "law" (defArgs s_law) (defBody s_law) (defScope s_law) .none kV15 dc15 pm15 an15 cd15 ct15, fun s v => .of_eq rfl, fun base _ _ => ?_⟩
  have C_tied_places := ok_tied_places (P := P) (w := w) (base := base) nb D_tied_places
  have CO_tied_places := ok_tied_places_own (P := P) (w := w) (base := base) nb D_tied_places
  have C_need_place : Ca P w K mg base "need_place" 1 ["tree", "place"] (sp_need_place mg) := ok_need_place nb E_NoPlace  D_need_place
  have C_tied_to := ok_tied_to nb C_need_place CO_tied_places D_tied_to
  have C_places_of_least : Ca P w K mg base "places_of_least" 1 ["numbers"] (sp_places_of_least mg) := ok_places_of_least nb  D_places_of_least
  have C_part_size : Ca P w K mg base "part_size" 3 ["tree", "place", "near"] (sp_part_size mg) := ok_part_size nb C_tied_to  D_part_size
  have C_balance : Ca P w K mg base "balance" 4 ["tree"] (sp_balance mg) := ok_balance nb C_part_size C_places_of_least C_tied_to  D_balance
  have C_law_cell_at : Ca P w K mg base "_law_cell_at" 1 ["script", "k"] (sp_law_cell_at K mg) := ok_law_cell_at nb  D_law_cell_at
  have C_law_digits : Ca P w K mg base "_law_digits" 1 ["cell", "many", "top"] (sp_law_digits mg) := ok_law_digits nb  D_law_digits
  have C_law_alike_0 : Ca P w K mg base "_law_alike" 1 ["found", "due"] (sp_law_alike_0 mg) := ok_law_alike_0 nb  D_law_alike_0
  have C_law_alike_1 : Ca P w K mg base "_law_alike" 2 ["found", "due"] (sp_law_alike_1 mg) := ok_law_alike_1 nb C_law_alike_0  D_law_alike_1
  have C_law_number : Ca P w K mg base "_law_number" 1 ["x"] (sp_law_number mg) := ok_law_number nb  D_law_number
  have C_law_tree : Ca P w K mg base "_law_tree" 2 ["script", "most"] (sp_law_tree K mg) := ok_law_tree nb C_law_cell_at C_law_digits C_law_number  D_law_tree
  have C_law_copy : Ca P w K mg base "_law_copy" 1 ["tree"] (sp_law_copy mg) := ok_law_copy nb  D_law_copy
  have C_law_greatest : Ca P w K mg base "_law_greatest" 1 ["tree", "without"] (sp_law_greatest mg) := ok_law_greatest nb  D_law_greatest
  exact ok_law nb C_law_alike_1 C_law_cell_at C_law_copy C_law_digits C_law_greatest C_law_tree C_balance F15
theorem walk {l : PySem.W.OpenLaw} {q : Program} {loose : List Str} {XP : (Str → Option Value) → Heap → Prop} {YP : World → Heap → Prop} {d : DefRec} {K : Params → PySem.W.Frag} (hn : l.most = some 63) (hdf : d.params.defaults = [])
    (hY : ∀ (w : World) (h : Heap), YP w h → (K w.params).In h)
    (F : ∀ (w : World) (mg : Str → Option Value) (fa : Addr) (h : Heap), (K w.params).In h → h.Ns mainGlobals mg → mg d.name = some (.ref fa) →
      ∃ fd : FuncData, (∀ (s : Shared) (u : Value), BindsTo s fd ⟨[u], []⟩ [("script", u)]) ∧ ∀ base : Heap, (K w.params).In base → base.Ns mainGlobals mg → FnOk l.prog w (K w.params) mg base (L2.CX l.prog w) 5 fa fd ["script"] (sp_law (K w.params))) :
    PySem.W.WalkO q loose XP YP l.row.toRowW d [] (fun f vs => PySem.call f vs) :=
  L2.walk_of (n := 63) (k := 5) (x := "script") (CX := fun w => L2.CX l.prog w) (sp := fun w => sp_law (K w.params)) hn (by decide) hdf ⟨rfl, by decide, by decide⟩ hY F
    (fun _ H a ns hl _ hS => ⟨H, a, ns, rfl, ⟨Same.refl _, (fun _ h => nomatch h), (fun _ h => nomatch h), List.nodup_nil, (fun _ h => nomatch h)⟩, hS, by rw [law_true ns hl]; exact fun _ _ _ => rfl⟩)
    fun _ _ _ _ _ z => by
      obtain ⟨_, _, _, _, _, _, _, _, _, _, _, _, z⟩ := z
      exact z.elim
end G
open PySem PySem.W PyProof.Rows
set_option maxRecDepth 100000 in
set_option maxHeartbeats 0 in
theorem PySem.Challenge.cw_everyseat_k46_balance_holds : PySem.Challenge.rw_everyseat_k46_balance.Holds := by
  w_on; o_law; k_head; (case hw => w_witness2)
  k_fill
  refine G.walk (l := PySem.Challenge.rw_everyseat_k46_balance) rfl rfl (fun w h Y => PySem.W.kIn_of Y) ?F
  case F =>
    intro w mg fa h KX GG hmg
    refine' G.all_mk KX GG hmg ?a1 ?l1 ?c1 ?k1 ?a2 ?l2 ?c2 ?k2 ?a3 ?l3 ?c3 ?k3 ?a4 ?l4 ?c4 ?k4 ?a5 ?l5 ?c5 ?k5 ?a6 ?l6 ?c6 ?k6 ?a7 ?l7 ?c7 ?k7 ?a8 ?l8 ?c8 ?k8 ?a9 ?l9 ?c9 ?k9 ?a10 ?l10 ?c10 ?k10 ?a11 ?l11 ?c11 ?k11 ?a12 ?l12 ?c12 ?k12 ?a13 ?l13 ?c13 ?k13 ?a14 ?l14 ?c14 ?k14 ?a15 ?l15 ?c15 ?k15 ?ga_NoPlace ?gx_NoPlace ?gk_NoPlace ?gb_NoPlace ?gt_NoPlace ?z_bool ?z_int ?z_isinstance ?z_len ?z_list ?z_max ?z_min ?z_range ?z_sorted ?z_str ?z_tuple
    (case a1 => k_is)
    (case l1 => k_is)
    (case c1 => k_is)
    (case k1 => k_is)
    (case a2 => k_is)
    (case l2 => k_is)
    (case c2 => k_is)
    (case k2 => k_is)
    (case a3 => k_is)
    (case l3 => k_is)
    (case c3 => k_is)
    (case k3 => k_is)
    (case a4 => k_is)
    (case l4 => k_is)
    (case c4 => k_is)
    (case k4 => k_is)
    (case a5 => k_is)
    (case l5 => k_is)
    (case c5 => k_is)
    (case k5 => k_is)
    (case a6 => k_is)
    (case l6 => k_is)
    (case c6 => k_is)
    (case k6 => k_is)
    (case a7 => k_is)
    (case l7 => k_is)
    (case c7 => k_is)
    (case k7 => k_is)
    (case a8 => k_is)
    (case l8 => k_is)
    (case c8 => k_is)
    (case k8 => k_is)
    (case a9 => k_is)
    (case l9 => k_is)
    (case c9 => k_is)
    (case k9 => k_is)
    (case a10 => k_is)
    (case l10 => k_is)
    (case c10 => k_is)
    (case k10 => k_is)
    (case a11 => k_is)
    (case l11 => k_is)
    (case c11 => k_is)
    (case k11 => k_is)
    (case a12 => k_is)
    (case l12 => k_is)
    (case c12 => k_is)
    (case k12 => k_is)
    (case a13 => k_is)
    (case l13 => k_is)
    (case c13 => k_is)
    (case k13 => k_is)
    (case a14 => k_is)
    (case l14 => k_is)
    (case c14 => k_is)
    (case k14 => k_is)
    (case a15 => k_is)
    (case l15 => k_is)
    (case c15 => k_is)
    (case k15 => k_is)
    (case ga_NoPlace => k_is)
    (case gx_NoPlace => k_exc)
    (case gk_NoPlace => k_is)
    (case gb_NoPlace => k_is)
    (case gt_NoPlace => k_is)
    (case z_bool => k_is)
    (case z_int => k_is)
    (case z_isinstance => k_is)
    (case z_len => k_is)
    (case z_list => k_is)
    (case z_max => k_is)
    (case z_min => k_is)
    (case z_range => k_is)
    (case z_sorted => k_is)
    (case z_str => k_is)
    (case z_tuple => k_is)
#print axioms PySem.Challenge.cw_everyseat_k46_balance_holds
