import PyProof.Rows.All
import Wide.All
import OpenK.AllK
import Wide.FinOn
import HandS.ForMost
import HandS.ForExc
import HandS.Wide
import HandS.Flow
import HandS.Evl
import HandS.Conv
import HandS.IsInst
import KE.SortData
import KE.DatumMoreOrd
import KE.DatumIndex
import HandS.Walk
import HandS.TupSets
import HandS.TryOnly
import HandS.Codes
import HandS.Dict
import HandS.TupLe
import HandS.List
import KE.KDictPairs
import HandS.Exc
import HandS.ExcIs
import HandS.ExcValue
import PyProof.Rows.CountFlat
import PySem.Challenge.RW_everyseat_k11_no_rule
set_option Elab.async false
set_option linter.all false
set_option maxRecDepth 100000
set_option maxHeartbeats 4000000
/-! My own layer over HandS: mirrors in an error monad, represented data, owned cells. -/
namespace PG
open PySem L2

/-! ### the mirrors' monad -/
inductive Er where
  | bad
  | exc (n : String)
  deriving DecidableEq
abbrev M := Except Er
def wp {a : Type} (m : M a) (Q : a → Prop) (E : String → Prop) : Prop :=
  match m with
  | .ok x => Q x
  | .error .bad => False
  | .error (.exc n) => E n
section
variable {a b : Type} {Q : a → Prop} {R : b → Prop} {E E' : String → Prop}
theorem wp_ok {x : a} : wp (Except.ok x : M a) Q E = Q x := rfl
theorem wp_pure {x : a} : wp (pure x : M a) Q E = Q x := rfl
theorem wp_bind {m : M b} {k : b → M a} : wp (m >>= k) Q E ↔ wp m (fun x => wp (k x) Q E) E := by
  cases m with
  | ok x => exact Iff.rfl
  | error e => cases e <;> exact Iff.rfl
theorem wp_call {m : M b} {k : b → M a} {E1 : String → Prop} (h : wp (m >>= k) Q E) (hr : ∀ r, m = .ok r → wp (k r) Q E → R r) (he : ∀ n, E n → E1 n) : wp m R E1 := by
  cases m with
  | ok x => exact hr x rfl h
  | error e =>
    cases e with
    | bad => exact h
    | exc n => exact he n h
/-- the last call of a def -/
theorem wp_tail {m : M a} {E1 : String → Prop} {R : a → Prop} (h : wp m Q E) (hr : ∀ r, m = .ok r → Q r → R r) (he : ∀ n, E n → E1 n) : wp m R E1 := by
  cases m with
  | ok x => exact hr x rfl h
  | error e =>
    cases e with
    | bad => exact h
    | exc n => exact he n h
def bad : M a := .error .bad
def raise (n : String) : M a := .error (.exc n)
theorem wp_bad {P : Prop} (h : wp (bad : M a) Q E) : P := h.elim
/-- a guard -/
@[irreducible] def chk (c : Prop) [Decidable c] : M Unit := if c then .ok () else bad
theorem wp_chk {c : Prop} [Decidable c] {k : Unit → M a} (h : wp (chk c >>= k) Q E) : c ∧ wp (k ()) Q E := by
  unfold chk at h
  by_cases hc : c
  · rw [if_pos hc] at h
    exact ⟨hc, h⟩
  · rw [if_neg hc] at h
    exact h.elim
/-- something that is there -/
def opt (o : Option b) : M b := match o with
  | some x => .ok x
  | none => bad
theorem wp_opt {o : Option b} {k : b → M a} (h : wp (opt o >>= k) Q E) : ∃ x, o = some x ∧ wp (k x) Q E := by
  cases o with
  | none => exact h.elim
  | some x => exact ⟨x, rfl, h⟩
/-- no exception leaves -/
def nox (m : M a) : M a := match m with
  | .ok x => .ok x
  | .error _ => bad
theorem wp_nox {m : M b} {k : b → M a} (h : wp (nox m >>= k) Q E) : ∃ x, m = .ok x ∧ wp (k x) Q E := by
  cases m with
  | ok x => exact ⟨x, rfl, h⟩
  | error e => exact h.elim
theorem wp_of_ok {m : M b} {x : b} (e : m = .ok x) (h : R x) : wp m R E := by
  rw [e]
  exact h
theorem wp_ite {c : Prop} [Decidable c] {x y : M a} (h : wp (if c then x else y) Q E) : (c → wp x Q E) ∧ (¬ c → wp y Q E) := by
  by_cases hc : c
  · rw [if_pos hc] at h
    exact ⟨fun _ => h, fun n => (n hc).elim⟩
  · rw [if_neg hc] at h
    exact ⟨fun p => (hc p).elim, fun _ => h⟩
end

/-! ### loops -/
/-- a turn's end: on to the next, or the def's return -/
inductive Fl (s r : Type) where
  | nx (x : s)
  | rt (x : r)
section
variable {i s r a : Type}
def loopM (b : i → s → M (Fl s r)) : List i → s → M (Fl s r)
  | [], x => .ok (.nx x)
  | y :: ys, x => b y x >>= fun
    | .nx x' => loopM b ys x'
    | .rt z => .ok (.rt z)
/-- a loop without return -/
def loopN (b : i → s → M s) : List i → s → M s
  | [], x => .ok x
  | y :: ys, x => b y x >>= fun x' => loopN b ys x'
def whileM (c : s → M Bool) (b : s → M (Fl s r)) : Nat → s → M (Fl s r)
  | 0, _ => bad
  | n + 1, x => c x >>= fun t => if t = true then b x >>= fun
      | .nx x' => whileM c b n x'
      | .rt z => .ok (.rt z)
    else .ok (.nx x)
def whileN (c : s → M Bool) (b : s → M s) : Nat → s → M s
  | 0, _ => bad
  | n + 1, x => c x >>= fun t => if t = true then b x >>= fun x' => whileN c b n x' else .ok x
/-- a comprehension: f gives an element, or none where the test fails -/
def compN (b : i → s → M (Option a × s)) : List i → s → M (List a × s)
  | [], x => .ok ([], x)
  | y :: ys, x => b y x >>= fun p => compN b ys p.2 >>= fun q => .ok (match p.1 with
    | some z => z :: q.1
    | none => q.1, q.2)
/-- .. that changes nothing -/
def compM (b : i → M (Option a)) : List i → M (List a)
  | [] => .ok []
  | y :: ys => b y >>= fun p => compM b ys >>= fun q => .ok (match p with
    | some z => z :: q
    | none => q)
end

/-! ### what a value stands for -/
open PySem.W (T3 T4 Datum DatumOrd)
mutual
inductive Rep (H : Hp) : V → PyData → Prop
  | non : Rep H .non .none
  | bl (b : Bool) : Rep H (.bl b) (.bool b)
  | int (i : Int) : Rep H (.int i) (.int i)
  | str (x : Str) : Rep H (.str x) (.str x)
  | lst {a : Addr} {xs : List V} {ds : List PyData} : H a = some (.lst xs) → RepA H xs ds → Rep H (.ref a) (.list ds)
  | tup {a : Addr} {xs : List V} {ds : List PyData} : H a = some (.tup xs) → RepA H xs ds → Rep H (.ref a) (.tuple ds)
inductive RepA (H : Hp) : List V → List PyData → Prop
  | nil : RepA H [] []
  | cons {v : V} {vs : List V} {d : PyData} {ds : List PyData} : Rep H v d → RepA H vs ds → RepA H (v :: vs) (d :: ds)
end
mutual
theorem Rep.mono {H H' : Hp} (s : Same H H') : ∀ (d : PyData) (v : V), Rep H v d → Rep H' v d
  | .none, _, h => by cases h; exact .non
  | .bool _, _, h => by cases h; exact .bl _
  | .int _, _, h => by cases h; exact .int _
  | .str _, _, h => by cases h; exact .str _
  | .list ds, _, h => by
    cases h with
    | lst ha hs => exact .lst (s _ _ ha) (RepA.mono s ds _ hs)
  | .tuple ds, _, h => by
    cases h with
    | tup ha hs => exact .tup (s _ _ ha) (RepA.mono s ds _ hs)
  | .dict _, _, h => by cases h
theorem RepA.mono {H H' : Hp} (s : Same H H') : ∀ (ds : List PyData) (vs : List V), RepA H vs ds → RepA H' vs ds
  | [], _, h => by cases h; exact .nil
  | d :: ds, _, h => by
    cases h with
    | cons h1 h2 => exact .cons (Rep.mono s d _ h1) (RepA.mono s ds _ h2)
end
mutual
theorem Rep.dp {K : PySem.W.Frag} {H : Hp} : ∀ (d : PyData) (v : V), Rep H v d → Dp K H v d
  | .none, _, h => by cases h; exact .non
  | .bool _, _, h => by cases h; exact .bl _
  | .int _, _, h => by cases h; exact .int _
  | .str _, _, h => by cases h; exact .str _
  | .list ds, _, h => by
    cases h with
    | lst ha hs => exact .lst (SqL.of ha) (RepA.dp ds _ hs)
  | .tuple ds, _, h => by
    cases h with
    | tup ha hs => exact .tup (SqT.of ha) (RepA.dp ds _ hs)
  | .dict _, _, h => by cases h
theorem RepA.dp {K : PySem.W.Frag} {H : Hp} : ∀ (ds : List PyData) (vs : List V), RepA H vs ds → DpAll K H vs ds
  | [], _, h => by cases h; exact .nil
  | d :: ds, _, h => by
    cases h with
    | cons h1 h2 => exact .cons (Rep.dp d _ h1) (RepA.dp ds _ h2)
end

/-- a Lean type whose values are Python's data -/
class Py (a : Type) where
  toD : a → PyData
instance : Py Int := ⟨.int⟩
instance : Py Bool := ⟨.bool⟩
instance : Py Str := ⟨.str⟩
instance : Py Unit := ⟨fun _ => .none⟩
instance {a : Type} [Py a] : Py (List a) := ⟨fun xs => .list (xs.map Py.toD)⟩
instance {a b : Type} [Py a] [Py b] : Py (a × b) := ⟨fun p => .tuple [Py.toD p.1, Py.toD p.2]⟩
instance {a b c : Type} [Py a] [Py b] [Py c] : Py (T3 a b c) := ⟨fun p => .tuple [Py.toD p.a, Py.toD p.b, Py.toD p.c]⟩
instance {a b c d : Type} [Py a] [Py b] [Py c] [Py d] : Py (T4 a b c d) := ⟨fun p => .tuple [Py.toD p.a, Py.toD p.b, Py.toD p.c, Py.toD p.d]⟩
instance {a : Type} [Py a] : Py (Option a) := ⟨fun o => match o with
  | none => .none
  | some x => Py.toD x⟩
class IsD (a : Type) [Py a] [DecidableEq a] [Datum a] : Prop where
  eq : ∀ x : a, Py.toD x = Datum.toD x
instance : IsD Int := ⟨fun _ => rfl⟩
instance : IsD Bool := ⟨fun _ => rfl⟩
instance : IsD Str := ⟨fun _ => rfl⟩
instance : IsD Unit := ⟨fun _ => rfl⟩
section
variable {a b c d : Type} [Py a] [DecidableEq a] [Datum a] [IsD a] [Py b] [DecidableEq b] [Datum b] [IsD b] [Py c] [DecidableEq c] [Datum c] [IsD c] [Py d] [DecidableEq d] [Datum d] [IsD d]
theorem map_toD (xs : List a) : xs.map (Py.toD : a → PyData) = xs.map Datum.toD := List.map_congr_left fun x _ => IsD.eq x
instance : IsD (List a) := ⟨fun xs => congrArg PyData.list (map_toD xs)⟩
instance : IsD (a × b) := ⟨fun p => by show PyData.tuple [_, _] = PyData.tuple [_, _]; rw [IsD.eq, IsD.eq]⟩
instance : IsD (T3 a b c) := ⟨fun p => by show PyData.tuple [_, _, _] = PyData.tuple [_, _, _]; rw [IsD.eq, IsD.eq, IsD.eq]⟩
instance : IsD (T4 a b c d) := ⟨fun p => by show PyData.tuple [_, _, _, _] = PyData.tuple [_, _, _, _]; rw [IsD.eq, IsD.eq, IsD.eq, IsD.eq]⟩
instance [PySem.W.SomeDatum a] : IsD (Option a) := ⟨fun o => by
  cases o with
  | none => rfl
  | some x => exact IsD.eq x⟩
end

/-- v stands for x -/
def R {a : Type} [Py a] (H : Hp) (v : V) (x : a) : Prop := Rep H v (Py.toD x)
/-- item by item -/
def RL {a : Type} [Py a] (H : Hp) (vs : List V) (xs : List a) : Prop := RepA H vs (xs.map Py.toD)
section
variable {H H' : Hp} {v : V} {vs : List V} {p q : Addr}
theorem R.mono {a : Type} [Py a] {x : a} (h : R H v x) (s : Same H H') : R H' v x := Rep.mono s _ _ h
theorem RL.mono {a : Type} [Py a] {xs : List a} (h : RL H vs xs) (s : Same H H') : RL H' vs xs := RepA.mono s _ _ h
theorem R.int {i : Int} : R H (.int i) i := Rep.int i
theorem R.bl {b : Bool} : R H (.bl b) b := Rep.bl b
theorem R.str {x : Str} : R H (.str x) x := Rep.str x
theorem R.unit {u : Unit} : R H .non u := Rep.non
theorem R.non {a : Type} [Py a] : R H .non (none : Option a) := Rep.non
theorem R.jst {a : Type} [Py a] {x : a} (h : R H v x) : R H v (some x) := h
theorem R.int_ {i : Int} (h : R H v i) : v = .int i := by cases h; rfl
theorem R.bl_ {b : Bool} (h : R H v b) : v = .bl b := by cases h; rfl
theorem R.str_ {x : Str} (h : R H v x) : v = .str x := by cases h; rfl
theorem R.unit_ {u : Unit} (h : R H v u) : v = .non := by cases h; rfl
theorem R.non_ {a : Type} [Py a] (h : R H v (none : Option a)) : v = .non := by cases h; rfl
theorem R.jst_ {a : Type} [Py a] {x : a} (h : R H v (some x)) : R H v x := h
variable {a b c d : Type} [Py a] [Py b] [Py c] [Py d]
theorem R.lst {xs : List a} (ha : H p = some (.lst vs)) (h : RL H vs xs) : R H (.ref p) xs := Rep.lst ha h
theorem R.lst_ {xs : List a} (h : R H v xs) : ∃ p vs, v = .ref p ∧ H p = some (.lst vs) ∧ RL H vs xs := by
  have h' : Rep H v (.list (xs.map Py.toD)) := h
  cases h' with
  | lst ha hs => exact ⟨_, _, rfl, ha, hs⟩
theorem R.t2 {x : a × b} {v1 v2 : V} (ha : H p = some (.tup [v1, v2])) (h1 : R H v1 x.1) (h2 : R H v2 x.2) : R H (.ref p) x := Rep.tup ha (.cons h1 (.cons h2 .nil))
theorem R.t2_ {x : a × b} (h : R H v x) : ∃ p v1 v2, v = .ref p ∧ H p = some (.tup [v1, v2]) ∧ R H v1 x.1 ∧ R H v2 x.2 := by
  have h' : Rep H v (.tuple [_, _]) := h
  cases h' with
  | tup ha hs =>
    cases hs with
    | cons h1 hs =>
      cases hs with
      | cons h2 hs =>
        cases hs
        exact ⟨_, _, _, rfl, ha, h1, h2⟩
theorem R.t3 {x : T3 a b c} {v1 v2 v3 : V} (ha : H p = some (.tup [v1, v2, v3])) (h1 : R H v1 x.a) (h2 : R H v2 x.b) (h3 : R H v3 x.c) : R H (.ref p) x := Rep.tup ha (.cons h1 (.cons h2 (.cons h3 .nil)))
theorem R.t3_ {x : T3 a b c} (h : R H v x) : ∃ p v1 v2 v3, v = .ref p ∧ H p = some (.tup [v1, v2, v3]) ∧ R H v1 x.a ∧ R H v2 x.b ∧ R H v3 x.c := by
  have h' : Rep H v (.tuple [_, _, _]) := h
  cases h' with
  | tup ha hs =>
    cases hs with
    | cons h1 hs =>
      cases hs with
      | cons h2 hs =>
        cases hs with
        | cons h3 hs =>
          cases hs
          exact ⟨_, _, _, _, rfl, ha, h1, h2, h3⟩
theorem R.t4 {x : T4 a b c d} {v1 v2 v3 v4 : V} (ha : H p = some (.tup [v1, v2, v3, v4])) (h1 : R H v1 x.a) (h2 : R H v2 x.b) (h3 : R H v3 x.c) (h4 : R H v4 x.d) : R H (.ref p) x :=
  Rep.tup ha (.cons h1 (.cons h2 (.cons h3 (.cons h4 .nil))))
theorem R.t4_ {x : T4 a b c d} (h : R H v x) : ∃ p v1 v2 v3 v4, v = .ref p ∧ H p = some (.tup [v1, v2, v3, v4]) ∧ R H v1 x.a ∧ R H v2 x.b ∧ R H v3 x.c ∧ R H v4 x.d := by
  have h' : Rep H v (.tuple [_, _, _, _]) := h
  cases h' with
  | tup ha hs =>
    cases hs with
    | cons h1 hs =>
      cases hs with
      | cons h2 hs =>
        cases hs with
        | cons h3 hs =>
          cases hs with
          | cons h4 hs =>
            cases hs
            exact ⟨_, _, _, _, _, rfl, ha, h1, h2, h3, h4⟩
theorem RL.nil : RL H [] ([] : List a) := RepA.nil
theorem RL.cons {x : a} {xs : List a} (h : R H v x) (hs : RL H vs xs) : RL H (v :: vs) (x :: xs) := RepA.cons h hs
theorem RL.cons_ {x : a} {xs : List a} (h : RL H vs (x :: xs)) : ∃ w ws, vs = w :: ws ∧ R H w x ∧ RL H ws xs := by
  have h' : RepA H vs (Py.toD x :: xs.map Py.toD) := h
  cases h' with
  | cons h1 h2 => exact ⟨_, _, rfl, h1, h2⟩
theorem RL.nil_ (h : RL H vs ([] : List a)) : vs = [] := by
  have h' : RepA H vs [] := h
  cases h'
  rfl
theorem RL.len : ∀ {vs : List V} {xs : List a}, RL H vs xs → vs.length = xs.length
  | _, [], h => by rw [RL.nil_ h]; rfl
  | _, x :: xs, h => by
    obtain ⟨w, ws, rfl, _, h2⟩ := RL.cons_ h
    rw [List.length_cons, List.length_cons, RL.len h2]
theorem RL.app : ∀ {vs ws : List V} {xs ys : List a}, RL H vs xs → RL H ws ys → RL H (vs ++ ws) (xs ++ ys)
  | _, _, [], _, h, k => by rw [RL.nil_ h]; exact k
  | _, _, x :: xs, _, h, k => by
    obtain ⟨w, ws', rfl, h1, h2⟩ := RL.cons_ h
    exact RL.cons h1 (RL.app h2 k)
theorem RL.snoc {x : a} {xs : List a} (h : RL H vs xs) (k : R H v x) : RL H (vs ++ [v]) (xs ++ [x]) := RL.app h (RL.cons k RL.nil)
theorem RL.get : ∀ {vs : List V} {xs : List a}, RL H vs xs → ∀ {i : Nat} {x : a}, xs[i]? = some x → ∃ w, vs[i]? = some w ∧ R H w x
  | _, [], _, i, x, e => by simp at e
  | _, y :: ys, h, i, x, e => by
    obtain ⟨w, ws, rfl, h1, h2⟩ := RL.cons_ h
    cases i with
    | zero =>
      cases (Option.some.inj e : y = x)
      exact ⟨w, rfl, h1⟩
    | succ i => exact RL.get h2 (i := i) (by simpa using e)
theorem RL.got : ∀ {vs : List V} {xs : List a}, RL H vs xs → ∀ {i : Nat} {w : V}, vs[i]? = some w → ∃ x, xs[i]? = some x ∧ R H w x
  | _, [], h, i, w, e => by rw [RL.nil_ h] at e; simp at e
  | _, y :: ys, h, i, w, e => by
    obtain ⟨w', ws, rfl, h1, h2⟩ := RL.cons_ h
    cases i with
    | zero =>
      cases (Option.some.inj e : w' = w)
      exact ⟨y, rfl, h1⟩
    | succ i => exact RL.got h2 (i := i) (by simpa using e)
theorem RL.atI {xs : List a} (h : RL H vs xs) {i : Int} {x : a} (e : L2.atI xs i = some x) : ∃ w, L2.atI vs i = some w ∧ R H w x := by
  unfold L2.atI at e ⊢
  rw [h.len]
  cases q : ixN xs.length i with
  | none => rw [q] at e; cases e
  | some j =>
    rw [q] at e
    exact h.get e
theorem RL.take : ∀ {vs : List V} {xs : List a} (n : Nat), RL H vs xs → RL H (vs.take n) (xs.take n)
  | _, _, 0, _ => RL.nil
  | _, [], n + 1, h => by rw [RL.nil_ h]; exact RL.nil
  | _, x :: xs, n + 1, h => by
    obtain ⟨w, ws, rfl, h1, h2⟩ := RL.cons_ h
    exact RL.cons h1 (RL.take n h2)
theorem RL.drop : ∀ {vs : List V} {xs : List a} (n : Nat), RL H vs xs → RL H (vs.drop n) (xs.drop n)
  | _, _, 0, h => h
  | _, [], n + 1, h => by rw [RL.nil_ h]; exact RL.nil
  | _, x :: xs, n + 1, h => by
    obtain ⟨w, ws, rfl, h1, h2⟩ := RL.cons_ h
    exact RL.drop n h2
theorem RL.set : ∀ {vs : List V} {xs : List a} (n : Nat) {w : V} {y : a}, RL H vs xs → R H w y → RL H (vs.set n w) (xs.set n y)
  | _, [], n, _, _, h, _ => by rw [RL.nil_ h]; exact RL.nil
  | _, x :: xs, 0, _, _, h, k => by
    obtain ⟨w, ws, rfl, h1, h2⟩ := RL.cons_ h
    exact RL.cons k h2
  | _, x :: xs, n + 1, _, _, h, k => by
    obtain ⟨w, ws, rfl, h1, h2⟩ := RL.cons_ h
    exact RL.cons h1 (RL.set n h2 k)
theorem RL.erase : ∀ {vs : List V} {xs : List a} (n : Nat), RL H vs xs → RL H (vs.eraseIdx n) (xs.eraseIdx n)
  | _, [], n, h => by rw [RL.nil_ h]; exact RL.nil
  | _, x :: xs, 0, h => by
    obtain ⟨w, ws, rfl, h1, h2⟩ := RL.cons_ h
    exact h2
  | _, x :: xs, n + 1, h => by
    obtain ⟨w, ws, rfl, h1, h2⟩ := RL.cons_ h
    exact RL.cons h1 (RL.erase n h2)
theorem RL.dropLast : ∀ {vs : List V} {xs : List a}, RL H vs xs → RL H vs.dropLast xs.dropLast
  | _, [], h => by rw [RL.nil_ h]; exact RL.nil
  | _, x :: xs, h => by
    obtain ⟨w, ws, rfl, h1, h2⟩ := RL.cons_ h
    cases xs with
    | nil => rw [RL.nil_ h2]; exact RL.nil
    | cons y ys =>
      obtain ⟨w2, ws2, rfl, _, _⟩ := RL.cons_ h2
      exact RL.cons h1 (RL.dropLast h2)
theorem RL.rev : ∀ {vs : List V} {xs : List a}, RL H vs xs → RL H vs.reverse xs.reverse
  | _, [], h => by rw [RL.nil_ h]; exact RL.nil
  | _, x :: xs, h => by
    obtain ⟨w, ws, rfl, h1, h2⟩ := RL.cons_ h
    rw [List.reverse_cons, List.reverse_cons]
    exact RL.snoc (RL.rev h2) h1
theorem RL.ints : ∀ {vs : List V} {xs : List Int}, RL H vs xs → vs = xs.map V.int
  | _, [], h => RL.nil_ h
  | _, x :: xs, h => by
    obtain ⟨w, ws, rfl, h1, h2⟩ := RL.cons_ h
    rw [R.int_ h1, RL.ints h2]
    rfl
theorem RL.of_ints : ∀ {xs : List Int}, RL H (xs.map V.int) xs
  | [] => RL.nil
  | x :: xs => RL.cons R.int RL.of_ints
theorem RL.bls : ∀ {vs : List V} {xs : List Bool}, RL H vs xs → vs = xs.map V.bl
  | _, [], h => RL.nil_ h
  | _, x :: xs, h => by
    obtain ⟨w, ws, rfl, h1, h2⟩ := RL.cons_ h
    rw [R.bl_ h1, RL.bls h2]
    rfl
theorem RL.strs : ∀ {vs : List V} {xs : List Str}, RL H vs xs → vs = xs.map V.str
  | _, [], h => RL.nil_ h
  | _, x :: xs, h => by
    obtain ⟨w, ws, rfl, h1, h2⟩ := RL.cons_ h
    rw [R.str_ h1, RL.strs h2]
    rfl
theorem RL.of_strs : ∀ {xs : List Str}, RL H (xs.map V.str) xs
  | [] => RL.nil
  | x :: xs => RL.cons R.str RL.of_strs
theorem RL.cut {xs : List a} (h : RL H vs xs) (lo hi : Option Int) : RL H (cutV vs lo hi) ((xs.drop (HT.sIx xs.length 0 lo)).take (HT.sIx xs.length xs.length hi - HT.sIx xs.length 0 lo)) := by
  unfold cutV
  rw [h.len]
  exact (h.drop _).take _
end

/-! ### owned cells: F is what is read alone, cs are the cells that the code may change -/
/-- what is known of the heap behind a def, by the heap at its entry; the cells at as may have changed -/
structure Gr (as : List Addr) (F H F' H' : Hp) : Prop where
  f : Same F F'
  s : Same F' H'
  k : ∀ b o, b ∉ as → H b = some o → H' b = some o
  t : ∀ b, H b ≠ none → H' b ≠ none
  n : ∀ b, H b ≠ none → F' b = F b ∨ ∃ xs, H b = some (.tup xs)
  u : ∀ b xs, H' b = some (.tup xs) → H b = none ∨ H b = some (.tup xs)
/-- what may be a cell -/
def noTup : HO → Bool
  | .tup _ => false
  | _ => true
structure Kp (as : List Addr) (H H' : Hp) : Prop where
  k : ∀ b o, b ∉ as → H b = some o → H' b = some o
  t : ∀ b, H b ≠ none → H' b ≠ none
/-- the entry of a def -/
structure Ent where
  as : List Addr
  F : Hp
  H : Hp
structure Ow (Z : Ent) (F : Hp) (cs : List (Addr × HO)) (H : Hp) : Prop where
  g : Gr Z.as Z.F Z.H F H
  cf : ∀ c ∈ cs, F c.1 = none
  ch : ∀ c ∈ cs, H c.1 = some c.2
  nd : (cs.map (·.1)).Nodup
  ca : ∀ c ∈ cs, c.1 ∈ Z.as ∨ Z.H c.1 = none
  nt : ∀ c ∈ cs, noTup c.2 = true
/-- what a def asks of its cells -/
structure Pre (F : Hp) (cs : List (Addr × HO)) (H : Hp) : Prop where
  s : Same F H
  cf : ∀ c ∈ cs, F c.1 = none
  ch : ∀ c ∈ cs, H c.1 = some c.2
  nd : (cs.map (·.1)).Nodup
  nt : ∀ c ∈ cs, noTup c.2 = true
theorem Same.new {H : Hp} {p : Addr} {o : HO} (h : H p = none) : Same H (upd H p o) := fun b u e => by
  rw [upd_ne (ne_of_none e h)]
  exact e
theorem Same.upd2 {F H : Hp} {p : Addr} {o : HO} (s : Same F H) : Same (upd F p o) (upd H p o) := fun b u e => by
  by_cases hb : b = p
  · subst hb
    rw [upd_same] at e ⊢
    exact e
  · rw [upd_ne hb] at e ⊢
    exact s b u e
theorem Same.no {F H : Hp} {p : Addr} (s : Same F H) (h : H p = none) : F p = none := Same.free s h
section
variable {Z : Ent} {F F' H H' : Hp} {cs : List (Addr × HO)} {p a : Addr} {o o' : HO}
theorem Pre.start (P : Pre F cs H) : Ow ⟨cs.map (·.1), F, H⟩ F cs H where
  g := ⟨Same.refl _, P.s, fun _ _ _ e => e, fun _ e => e, fun _ _ => .inl rfl, fun _ _ e => .inr e⟩
  cf := P.cf
  ch := P.ch
  nd := P.nd
  ca := fun c hc => .inl (List.mem_map.mpr ⟨c, hc, rfl⟩)
  nt := P.nt
theorem Ow.s (O : Ow Z F cs H) : Same F H := O.g.s
theorem Ow.pre (O : Ow Z F cs H) : Pre F cs H := ⟨O.g.s, O.cf, O.ch, O.nd, O.nt⟩
theorem Ow.pre0 (O : Ow Z F cs H) : Pre F [] H := ⟨O.g.s, (fun _ h => nomatch h), (fun _ h => nomatch h), List.nodup_nil, fun _ h => nomatch h⟩
theorem Ow.pre1 (O : Ow Z F cs H) (i : Nat) (e : cs[i]? = some (a, o)) : Pre F [(a, o)] H := by
  have m := List.mem_of_getElem? e
  refine ⟨O.g.s, fun c hc => ?_, fun c hc => ?_, by simp, fun c hc => ?_⟩
  · rw [List.mem_singleton.mp hc]; exact O.cf _ m
  · rw [List.mem_singleton.mp hc]; exact O.ch _ m
  · rw [List.mem_singleton.mp hc]; exact O.nt _ m
theorem Ow.at (O : Ow Z F cs H) (i : Nat) (e : cs[i]? = some (a, o)) : H a = some o := O.ch _ (List.mem_of_getElem? e)
theorem Ow.no (O : Ow Z F cs H) (h : H p = none) : F p = none := Same.no O.s h
theorem Gr.new (g : Gr Z.as Z.F Z.H F H) (h : H p = none) : Gr Z.as Z.F Z.H F (upd H p o) where
  f := g.f
  s := g.s.trans (Same.new h)
  k := fun b u hb e => Same.new h b u (g.k b u hb e)
  t := fun b e z => by
    by_cases hb : b = p
    · subst hb; exact g.t _ e h
    · rw [upd_ne hb] at z; exact g.t b e z
  n := g.n
  u := fun b xs e => by
    by_cases hb : b = p
    · subst hb
      cases q : Z.H b with
      | none => exact .inl rfl
      | some u => exact absurd h (g.t b (by rw [q]; simp))
    · rw [upd_ne hb] at e; exact g.u b xs e
/-- a new cell -/
theorem Ow.new (O : Ow Z F cs H) (h : H p = none) (hn : noTup o = true := by rfl) : Ow Z F ((p, o) :: cs) (upd H p o) where
  g := O.g.new h
  cf := fun c hc => by
    rcases List.mem_cons.mp hc with rfl | hc
    · exact O.no h
    · exact O.cf c hc
  ch := fun c hc => by
    rcases List.mem_cons.mp hc with rfl | hc
    · exact upd_same
    · rw [upd_ne (ne_of_none (O.ch c hc) h)]; exact O.ch c hc
  nd := by
    rw [List.map_cons, List.nodup_cons]
    refine ⟨fun hm => ?_, O.nd⟩
    obtain ⟨c, hc, e⟩ := List.mem_map.mp hm
    have z := O.ch c hc
    rw [e] at z
    rw [z] at h
    cases h
  ca := fun c hc => by
    rcases List.mem_cons.mp hc with rfl | hc
    · refine .inr ?_
      cases q : Z.H p with
      | none => rfl
      | some u => exact absurd h (O.g.t p (by rw [q]; simp))
    · exact O.ca c hc
  nt := fun c hc => by
    rcases List.mem_cons.mp hc with rfl | hc
    · exact hn
    · exact O.nt c hc
/-- a new thing that is read alone -/
theorem Ow.put (O : Ow Z F cs H) (h : H p = none) : Ow Z (upd F p o) cs (upd H p o) where
  g := {
    f := O.g.f.trans (Same.new (O.no h))
    s := Same.upd2 O.g.s
    k := (O.g.new h).k
    t := (O.g.new h).t
    n := fun b e => by
      have hb : b ≠ p := fun z => by subst z; exact O.g.t _ e h
      rw [upd_ne hb]
      exact O.g.n b e
    u := (O.g.new h).u }
  cf := fun c hc => by rw [upd_ne (ne_of_none (O.ch c hc) h)]; exact O.cf c hc
  ch := fun c hc => by rw [upd_ne (ne_of_none (O.ch c hc) h)]; exact O.ch c hc
  nd := O.nd
  ca := O.ca
  nt := O.nt
theorem map_set_fst {i : Nat} (e : cs[i]? = some (a, o)) : (cs.set i (a, o')).map (·.1) = cs.map (·.1) := by
  rw [List.map_set]
  obtain ⟨h, e'⟩ := List.getElem?_eq_some_iff.mp e
  refine List.ext_getElem? fun j => ?_
  by_cases hj : i = j
  · subst hj
    rw [List.getElem?_set_self (by simpa using h), List.getElem?_map, e]
    rfl
  · rw [List.getElem?_set_ne hj]
theorem nd_other {i : Nat} (nd : (cs.map (·.1)).Nodup) (e : cs[i]? = some (a, o)) {c : Addr × HO} (hc : c ∈ cs.set i (a, o')) : c = (a, o') ∨ (c ∈ cs ∧ c.1 ≠ a) := by
  obtain ⟨j, hj⟩ := List.mem_iff_getElem?.mp hc
  by_cases hij : i = j
  · subst hij
    obtain ⟨h, _⟩ := List.getElem?_eq_some_iff.mp e
    rw [List.getElem?_set_self h] at hj
    exact .inl (Option.some.inj hj).symm
  · rw [List.getElem?_set_ne hij] at hj
    refine .inr ⟨List.mem_of_getElem? hj, fun z => hij ?_⟩
    have h1 : (cs.map (·.1))[i]? = some a := by rw [List.getElem?_map, e]; rfl
    have h2 : (cs.map (·.1))[j]? = some a := by rw [List.getElem?_map, hj, ← z]; rfl
    exact nd_ix nd h1 h2
/-- a cell is changed -/
theorem Ow.set (O : Ow Z F cs H) (i : Nat) (o' : HO) (e : cs[i]? = some (a, o)) (hn : noTup o' = true := by rfl) : Ow Z F (cs.set i (a, o')) (upd H a o') := by
  have m := List.mem_of_getElem? e
  have ha := O.ca _ m
  refine ⟨⟨O.g.f, fun b u q => ?_, fun b u hb q => ?_, fun b q z => ?_, O.g.n, fun b xs q => ?_⟩, fun c hc => ?_, fun c hc => ?_, ?_, fun c hc => ?_, fun c hc => ?_⟩
  · have hb : b ≠ a := fun z => by subst z; rw [O.cf _ m] at q; cases q
    rw [upd_ne hb]
    exact O.g.s b u q
  · have hba : b ≠ a := fun z => by
      subst z
      rcases ha with ha | ha
      · exact hb ha
      · have q' : Z.H b = some u := q
        have ha' : Z.H b = none := ha
        rw [ha'] at q'; cases q'
    rw [upd_ne hba]
    exact O.g.k b u hb q
  · by_cases hb : b = a
    · subst hb; rw [upd_same] at z; cases z
    · rw [upd_ne hb] at z; exact O.g.t b q z
  · by_cases hb : b = a
    · subst hb
      rw [upd_same] at q
      rw [Option.some.inj q] at hn
      cases hn
    · rw [upd_ne hb] at q; exact O.g.u b xs q
  · rcases nd_other O.nd e hc with rfl | ⟨h1, _⟩
    · exact O.cf (a, o) m
    · exact O.cf c h1
  · rcases nd_other O.nd e hc with rfl | ⟨h1, h2⟩
    · exact upd_same
    · rw [upd_ne h2]; exact O.ch c h1
  · rw [map_set_fst e]; exact O.nd
  · rcases nd_other O.nd e hc with rfl | ⟨h1, _⟩
    · exact ha
    · exact O.ca c h1
  · rcases nd_other O.nd e hc with rfl | ⟨h1, _⟩
    · exact hn
    · exact O.nt c h1
theorem mem_erase {i : Nat} {c : Addr × HO} (h : c ∈ cs.eraseIdx i) : c ∈ cs := List.mem_of_mem_eraseIdx h
theorem nd_erase {i : Nat} (h : (cs.map (·.1)).Nodup) : ((cs.eraseIdx i).map (·.1)).Nodup := by
  exact h.sublist ((List.eraseIdx_sublist cs i).map (fun x => x.1))
/-- a cell that nobody changes any more (it was not there at the entry) -/
theorem Ow.frz (O : Ow Z F cs H) (i : Nat) (e : cs[i]? = some (a, o)) (hz : Z.H a = none) : Ow Z (upd F a o) (cs.eraseIdx i) H := by
  have m := List.mem_of_getElem? e
  have h1 : ∀ c ∈ cs.eraseIdx i, c.1 ≠ a := fun c hc z => by
    have nd := O.nd
    obtain ⟨hi, e'⟩ := List.getElem?_eq_some_iff.mp e
    obtain ⟨j, hj⟩ := List.mem_iff_getElem?.mp hc
    rw [List.getElem?_eraseIdx] at hj
    have h1 : (cs.map (·.1))[i]? = some a := by rw [List.getElem?_map, e]; rfl
    by_cases hji : j < i
    · rw [if_pos hji] at hj
      have h2 : (cs.map (·.1))[j]? = some a := by rw [List.getElem?_map, hj, ← z]; rfl
      have := nd_ix nd h1 h2
      omega
    · rw [if_neg hji] at hj
      have h2 : (cs.map (·.1))[j + 1]? = some a := by rw [List.getElem?_map, hj, ← z]; rfl
      have := nd_ix nd h1 h2
      omega
  refine ⟨⟨O.g.f.trans (Same.new (O.cf _ m)), fun b u q => ?_, O.g.k, O.g.t, fun b q => ?_, O.g.u⟩, fun c hc => ?_, fun c hc => O.ch c (mem_erase hc), nd_erase O.nd, fun c hc => O.ca c (mem_erase hc), fun c hc => O.nt c (mem_erase hc)⟩
  · by_cases hb : b = a
    · subst hb; rw [upd_same] at q; rw [← q]; exact O.ch _ m
    · rw [upd_ne hb] at q; exact O.g.s b u q
  · have hb : b ≠ a := fun z => by subst z; exact q hz
    rw [upd_ne hb]
    exact O.g.n b q
  · rw [upd_ne (h1 c hc)]; exact O.cf c (mem_erase hc)
theorem Ow.drop (O : Ow Z F cs H) (i : Nat) : Ow Z F (cs.eraseIdx i) H := ⟨O.g, fun c hc => O.cf c (mem_erase hc), fun c hc => O.ch c (mem_erase hc), nd_erase O.nd, fun c hc => O.ca c (mem_erase hc), fun c hc => O.nt c (mem_erase hc)⟩
theorem Ow.frzS (O : Ow Z F cs H) (i : Nat) (e : cs[i]? = some (a, o)) : Same F (upd F a o) := Same.new (O.cf _ (List.mem_of_getElem? e))
theorem Ow.putS (O : Ow Z F cs H) (h : H p = none) : Same F (upd F p o) := Same.new (O.no h)
theorem Gr.then {as : List Addr} (g0 : Gr Z.as Z.F Z.H F H) (g : Gr as F H F' H') (ha : ∀ b ∈ as, b ∈ Z.as ∨ Z.H b = none) : Gr Z.as Z.F Z.H F' H' where
  f := g0.f.trans g.f
  s := g.s
  k := fun b u hb e => by
    refine g.k b u (fun z => ?_) (g0.k b u hb e)
    rcases ha b z with h | h
    · exact hb h
    · rw [h] at e; cases e
  t := fun b e => g.t b (g0.t b e)
  n := fun b e => by
    rcases g0.n b e with h0 | h0
    · rcases g.n b (g0.t b e) with h1 | ⟨xs, hx⟩
      · exact .inl (h1.trans h0)
      · rcases g0.u b xs hx with z | z
        · exact absurd z e
        · exact .inr ⟨xs, z⟩
    · exact .inr h0
  u := fun b xs e => by
    rcases g.u b xs e with z | z
    · refine .inl ?_
      cases q : Z.H b with
      | none => rfl
      | some u => exact absurd z (g0.t b (by rw [q]; simp))
    · exact g0.u b xs z
theorem Gr.none {as : List Addr} (g : Gr as F H F' H') {c : Addr × HO} (h : H c.1 = some c.2) (hn : noTup c.2 = true) (hf : F c.1 = Option.none) : F' c.1 = Option.none := by
  rcases g.n c.1 (by rw [h]; simp) with z | ⟨xs, z⟩
  · exact z.trans hf
  · rw [h] at z
    rw [Option.some.inj z] at hn
    cases hn
/-- behind a call that changes none of our cells -/
theorem Ow.call0 (O : Ow Z F cs H) (g : Gr [] F H F' H') : Ow Z F' cs H' where
  g := O.g.then g (fun _ h => nomatch h)
  cf := fun c hc => g.none (O.ch c hc) (O.nt c hc) (O.cf c hc)
  ch := fun c hc => g.k _ _ (fun h => nomatch h) (O.ch c hc)
  nd := O.nd
  ca := O.ca
  nt := O.nt
/-- .. one -/
theorem Ow.call1 (O : Ow Z F cs H) (g : Gr [a] F H F' H') (i : Nat) (e : cs[i]? = some (a, o)) (h' : H' a = some o') (hn : noTup o' = true := by rfl) : Ow Z F' (cs.set i (a, o')) H' := by
  have m := List.mem_of_getElem? e
  refine ⟨O.g.then g (fun b hb => by rw [List.mem_singleton.mp hb]; exact O.ca _ m), fun c hc => ?_, fun c hc => ?_, by rw [map_set_fst e]; exact O.nd, fun c hc => ?_, fun c hc => ?_⟩
  · rcases nd_other O.nd e hc with rfl | ⟨h1, _⟩
    · exact g.none (c := (a, o)) (O.ch (a, o) m) (O.nt (a, o) m) (O.cf (a, o) m)
    · exact g.none (O.ch c h1) (O.nt c h1) (O.cf c h1)
  · rcases nd_other O.nd e hc with rfl | ⟨h1, h2⟩
    · exact h'
    · exact g.k _ _ (fun z => h2 (List.mem_singleton.mp z)) (O.ch c h1)
  · rcases nd_other O.nd e hc with rfl | ⟨h1, _⟩
    · exact O.ca (a, o) m
    · exact O.ca c h1
  · rcases nd_other O.nd e hc with rfl | ⟨h1, _⟩
    · exact hn
    · exact O.nt c h1
/-- a cell that a call made -/
theorem Ow.add {H0 : Hp} {F0 : Hp} (O : Ow Z F cs H) (O0 : Ow Z F0 cs' H0) (hk : ∀ c ∈ cs, c.1 ∈ cs'.map (·.1)) (hn : H0 p = none) (hf : F p = none) (h : H p = some o) (ht : noTup o = true := by rfl) : Ow Z F ((p, o) :: cs) H where
  g := O.g
  cf := fun c hc => by
    rcases List.mem_cons.mp hc with rfl | hc
    · exact hf
    · exact O.cf c hc
  ch := fun c hc => by
    rcases List.mem_cons.mp hc with rfl | hc
    · exact h
    · exact O.ch c hc
  nd := by
    rw [List.map_cons, List.nodup_cons]
    refine ⟨fun hm => ?_, O.nd⟩
    obtain ⟨c, hc, e⟩ := List.mem_map.mp hm
    obtain ⟨c', hc', e'⟩ := List.mem_map.mp (hk c hc)
    have z := O0.ch c' hc'
    rw [e', e] at z
    rw [z] at hn
    cases hn
  ca := fun c hc => by
    rcases List.mem_cons.mp hc with rfl | hc
    · refine .inr ?_
      cases q : Z.H p with
      | none => rfl
      | some u => exact absurd hn (O0.g.t p (by rw [q]; simp))
    · exact O.ca c hc
  nt := fun c hc => by
    rcases List.mem_cons.mp hc with rfl | hc
    · exact ht
    · exact O.nt c hc
theorem Ow.kp (O : Ow Z F cs H) : Kp Z.as Z.H H := ⟨O.g.k, O.g.t⟩
theorem Kp.of {as : List Addr} {H0 H1 : Hp} (g : Gr as F H0 F' H1) : Kp as H0 H1 := ⟨g.k, g.t⟩
/-- an error of a call leaves this def -/
theorem Ow.kpCall {as : List Addr} {H1 : Hp} (O : Ow Z F cs H) (k : Kp as H H1) (ha : ∀ b ∈ as, ∃ o, (b, o) ∈ cs) : Kp Z.as Z.H H1 where
  k := fun b u hb e => by
    refine k.k b u (fun z => ?_) (O.g.k b u hb e)
    obtain ⟨o, hc⟩ := ha b z
    rcases O.ca _ hc with h | h
    · exact hb h
    · have h' : Z.H b = none := h
      rw [h'] at e; cases e
  t := fun b e => k.t b (O.g.t b e)
theorem Ow.kp0 {H1 : Hp} (O : Ow Z F cs H) (k : Kp [] H H1) : Kp Z.as Z.H H1 := O.kpCall k fun _ h => nomatch h
theorem Ow.kp1 {H1 : Hp} (O : Ow Z F cs H) (k : Kp [a] H H1) (i : Nat) (e : cs[i]? = some (a, o)) : Kp Z.as Z.H H1 := O.kpCall k fun b hb => by
  rw [List.mem_singleton.mp hb]
  exact ⟨o, List.mem_of_getElem? e⟩
end
end PG

set_option Elab.async false
set_option linter.all false
set_option maxRecDepth 100000
set_option maxHeartbeats 4000000
namespace PG
open PySem L2
open PySem.W (T3 T4 Datum DatumOrd Holds HoldAll EachIs)
/-! ### rules over typed data -/
section
variable {X : Cx} {pins : List (Addr × Obj)} {σ : St} {H : Hp} {s : Shared} {v : V} {u : Value} {vs : List V} {us : List Value}
theorem R.holds {a : Type} [Py a] [DecidableEq a] [Datum a] [IsD a] {x : a} (I : Inv X pins σ H s) (h : R H v x) (r : RelV v u) : Holds s.heap u x := by
  obtain ⟨as, q⟩ := Dp.reads I _ _ _ (Rep.dp _ _ h) r
  rw [IsD.eq] at q
  exact ⟨as, q⟩
theorem RL.holds {a : Type} [Py a] [DecidableEq a] [Datum a] [IsD a] {xs : List a} (I : Inv X pins σ H s) (h : RL H vs xs) (r : Vals vs us) : HoldAll s.heap us xs := by
  obtain ⟨as, q⟩ := Dp.readsAll I _ _ _ (RepA.dp _ _ h) r
  rw [map_toD] at q
  exact ⟨as, q⟩
end
section
variable {X : Cx} (a : Type) [Py a] [DecidableEq a] [Datum a] [IsD a]
def rEqT : R2 := fun x y H Q => ∃ p q : a, R H x p ∧ R H y q ∧ Q (.bl (decide (p = q))) H
def rNeT : R2 := fun x y H Q => ∃ p q : a, R H x p ∧ R H y q ∧ Q (.bl (decide (p ≠ q))) H
theorem op_eqT (hu : X.A.units + 64 < cLine) (hd : Datum.depth a ≤ 64 := by decide) : OpR X (compareOp .Eq) (rEqT a) := by
  intro pins s σ H x y v u Q I rx ry h
  obtain ⟨p, q, hp, hq, k⟩ := h
  exact PySem.W.eq_datum (hp.holds I rx) (hq.holds I ry) (by omega) ⟨.bl _, H, I, rfl, k⟩
theorem op_neT (hu : X.A.units + 64 < cLine) (hd : Datum.depth a ≤ 64 := by decide) : OpR X (compareOp .NotEq) (rNeT a) := by
  intro pins s σ H x y v u Q I rx ry h
  obtain ⟨p, q, hp, hq, k⟩ := h
  exact PySem.W.ne_datum (hp.holds I rx) (hq.holds I ry) (by omega) ⟨.bl _, H, I, rfl, k⟩
def rInT (neg : Bool) : R2 := fun x y H Q => ∃ (p : a) (l : Addr) (vs : List V) (ys : List a), R H x p ∧ y = .ref l ∧ (H l = some (.lst vs) ∨ H l = some (.tup vs)) ∧ RL H vs ys ∧ Q (.bl (if neg then decide (p ∉ ys) else decide (p ∈ ys))) H
end
section
variable {X : Cx} (a : Type) [Py a] [DecidableEq a] [Datum a] [IsD a]
theorem op_inT (hu : X.A.units + 64 < cLine) (hd : Datum.depth a ≤ 60 := by decide) : OpR X (compareOp .In) (rInT a false) := by
  intro pins s σ H x y v u Q I rx ry h
  obtain ⟨p, l, vs, ys, hp, rfl, hl, hy, k⟩ := h
  cases ry
  rcases hl with hl | hl
  · obtain ⟨its, rv, hL, _⟩ := I.list (SqL.of (K := X.K) hl)
    exact PySem.W.in_list_datum hL.isList (by simpa using hy.holds I rv) (hp.holds I rx) (by omega) ⟨.bl _, H, I, rfl, k⟩
  · obtain ⟨its, rv, hL, _⟩ := I.tuple (SqT.of (K := X.K) hl)
    exact PySem.W.in_tuple_datum (show s.heap.IsTuple l its.toArray from hL) (by simpa using hy.holds I rv) (hp.holds I rx) (by omega) ⟨.bl _, H, I, rfl, k⟩
theorem op_ninT (hu : X.A.units + 64 < cLine) (hd : Datum.depth a ≤ 60 := by decide) : OpR X (compareOp .NotIn) (rInT a true) := by
  intro pins s σ H x y v u Q I rx ry h
  obtain ⟨p, l, vs, ys, hp, rfl, hl, hy, k⟩ := h
  cases ry
  rcases hl with hl | hl
  · obtain ⟨its, rv, hL, _⟩ := I.list (SqL.of (K := X.K) hl)
    exact PySem.W.notIn_list_datum hL.isList (by simpa using hy.holds I rv) (hp.holds I rx) (by omega) ⟨.bl _, H, I, rfl, k⟩
  · obtain ⟨its, rv, hL, _⟩ := I.tuple (SqT.of (K := X.K) hl)
    exact PySem.W.notIn_tuple_datum (show s.heap.IsTuple l its.toArray from hL) (by simpa using hy.holds I rv) (hp.holds I rx) (by omega) ⟨.bl _, H, I, rfl, k⟩
end

/-! ### sorted -/
/-- how data may be sorted: all are tuples with an item, or none is a tuple or None -/
class SortB (a : Type) [DecidableEq a] [Datum a] : Prop where
  ok : (∀ x : a, ∃ d r, Datum.toD x = .tuple (d :: r)) ∨ ∀ x : a, Datum.toD x ≠ .none ∧ ∀ ds, Datum.toD x ≠ .tuple ds
instance : SortB Int := ⟨.inr fun x => ⟨(fun e => nomatch (show PyData.int x = .none from e)), fun ds e => nomatch (show PyData.int x = .tuple ds from e)⟩⟩
instance : SortB Str := ⟨.inr fun x => ⟨(fun e => nomatch (show PyData.str x = .none from e)), fun ds e => nomatch (show PyData.str x = .tuple ds from e)⟩⟩
section
variable {a b c : Type} [DecidableEq a] [Datum a] [DecidableEq b] [Datum b] [DecidableEq c] [Datum c]
instance : SortB (List a) := ⟨.inr fun x => ⟨(fun e => nomatch (show PyData.list _ = .none from e)), fun ds e => nomatch (show PyData.list _ = .tuple ds from e)⟩⟩
instance : SortB (a × b) := ⟨.inl fun x => ⟨_, _, rfl⟩⟩
instance : SortB (T3 a b c) := ⟨.inl fun x => ⟨_, _, rfl⟩⟩
end
/-- Python's order -/
def leT {a : Type} [DecidableEq a] [DatumOrd a] (x y : a) : Bool := !DatumOrd.lt y x
def sortT {a : Type} [DecidableEq a] [DatumOrd a] (xs : List a) : List a := xs.mergeSort leT
theorem dataLe_T {a β : Type} [DecidableEq a] [DatumOrd a] (f : β → a) : PySem.W.dataLe false (fun b => Datum.toD (f b)) = fun x y => leT (f x) (f y) := by
  funext x y
  rw [PySem.W.dataLe_eq]
  show (!PySem.W.dataLt (Datum.toD (f y)) (Datum.toD (f x))) = _
  rw [DatumOrd.lt_eq]
  rfl
section
variable {a : Type} [Py a] [DecidableEq a] [DatumOrd a] [IsD a] {H : Hp}
theorem each_pairs : ∀ {vs : List V} {xs : List a} {us : List Value}, RL H vs xs → Vals vs us → EachIs (fun (u : Value) (p : V × a) => RelV p.1 u ∧ R H p.1 p.2) us (vs.zip xs)
  | _, [], _, h, r => by
    rw [RL.nil_ h] at r ⊢
    cases r
    exact .nil
  | _, x :: xs, _, h, r => by
    obtain ⟨w, ws, rfl, h1, h2⟩ := RL.cons_ h
    cases r with
    | cons r1 r2 => exact .cons ⟨r1, h1⟩ (each_pairs h2 r2)
theorem pairs_vals : ∀ {ps : List (V × a)} {us : List Value}, EachIs (fun (u : Value) (p : V × a) => RelV p.1 u ∧ R H p.1 p.2) us ps → Vals (ps.map (·.1)) us ∧ RL H (ps.map (·.1)) (ps.map (·.2))
  | _, _, .nil => ⟨.nil, RL.nil⟩
  | _, _, .cons ⟨r1, h1⟩ t => ⟨.cons r1 (pairs_vals t).1, RL.cons h1 (pairs_vals t).2⟩
theorem each_imp {β γ : Type} {A B : β → γ → Prop} (f : ∀ x y, A x y → B x y) : ∀ {xs : List β} {ys : List γ}, EachIs A xs ys → EachIs B xs ys
  | _, _, .nil => .nil
  | _, _, .cons h t => .cons (f _ _ h) (each_imp f t)
theorem zip_snd : ∀ {vs : List V} {xs : List a}, vs.length = xs.length → (vs.zip xs).map (·.2) = xs
  | [], [], _ => rfl
  | v :: vs, x :: xs, h => by
    rw [List.zip_cons_cons, List.map_cons, zip_snd (by simpa using h)]
  | [], _ :: _, h => by simp at h
  | _ :: _, [], h => by simp at h
theorem sort_zip {vs : List V} {xs : List a} (h : vs.length = xs.length) : ((vs.zip xs).mergeSort fun p q => leT p.2 q.2).map (·.2) = sortT xs := by
  unfold sortT
  rw [List.map_mergeSort (s := leT) (fun _ _ _ _ => rfl), zip_snd h]
end
section
variable {a : Type} [Py a] [DecidableEq a] [DatumOrd a] [IsD a] {H : Hp}
def sortV (ws : List V) (xs : List a) : List V := ((ws.zip xs).mergeSort fun p q => leT p.2 q.2).map (·.1)
theorem RL.pairs : ∀ {ws : List V} {xs : List a}, RL H ws xs → ∀ p ∈ ws.zip xs, R H p.1 p.2
  | _, [], _, p, hp => by simp at hp
  | _, x :: xs, h, p, hp => by
    obtain ⟨w, ws, rfl, h1, h2⟩ := RL.cons_ h
    rw [List.zip_cons_cons] at hp
    rcases List.mem_cons.mp hp with rfl | hp
    · exact h1
    · exact RL.pairs h2 p hp
theorem RL.of_pairs : ∀ {ps : List (V × a)}, (∀ p ∈ ps, R H p.1 p.2) → RL H (ps.map (·.1)) (ps.map (·.2))
  | [], _ => RL.nil
  | p :: ps, h => RL.cons (h p List.mem_cons_self) (RL.of_pairs fun q hq => h q (List.mem_cons_of_mem _ hq))
theorem RL.sorted {ws : List V} {xs : List a} (h : RL H ws xs) : RL H (sortV ws xs) (sortT xs) := by
  have q : RL H (sortV ws xs) (((ws.zip xs).mergeSort fun p q => leT p.2 q.2).map (·.2)) := RL.of_pairs fun p hp => h.pairs p (List.mem_mergeSort.mp hp)
  rw [sort_zip h.len] at q
  exact q
end
section
variable {X : Cx} (a : Type) [Py a] [DecidableEq a] [DatumOrd a] [IsD a]
/-- sorted(xs) of a list: a new list -/
def rSortedT : List V → Hp → VK → Prop := fun vs H Q => ∃ (l : Addr) (ws : List V) (xs : List a), vs = [.ref l] ∧ H l = some (.lst ws) ∧ RL H ws xs ∧ ∀ (p : Addr), H p = none → Q (.ref p) (upd H p (.lst (sortV ws xs)))
theorem cr_sortedT [SortB a] (hu : X.A.units + 128 < cLine) (hd : Datum.depth a ≤ 100 := by decide) : CallR X (.builtin "sorted") (rSortedT a) := by
  intro pins s σ H vs us Q I r h
  obtain ⟨l, ws, xs, rfl, hl, hx, k⟩ := h
  obtain ⟨its, rv, hL, hz⟩ := I.list (SqL.of (K := X.K) hl)
  rw [Vals.ref1 r]
  have hlen : ws.length = xs.length := hx.len
  have hE := each_pairs hx rv
  refine PySem.W.sorted_data (bs := ws.zip xs) (enc := fun p => Datum.toD p.2) hL.isList hE (each_imp (fun u p hp => hp.2.holds I hp.1) hE) (PySem.W.AllAlike.of fun p q => DatumOrd.alike p.2 q.2) ?_ (by rw [List.length_zip, ← hlen, Nat.min_self]; exact hz) (fun p _ => ?_) fun out ho he => ?_
  · rcases SortB.ok (a := a) with q | q
    · exact PySem.W.Sortable.tuples fun p => q p.2
    · exact PySem.W.Sortable.others fun p => q p.2
  · have := Datum.depth_le p.2
    omega
  · rw [dataLe_T (fun p : V × a => p.2)] at he
    obtain ⟨q1, q2⟩ := pairs_vals he
    obtain ⟨ep, he'⟩ := PyProof.Rows.sortedAll_at s.heap its out.toArray
    refine ⟨.ref _, upd H (s.heap.objs.size + 1) (.lst _), I.laid (t' := s.toks) (fun _ _ => PyProof.Rows.sortedAll_old) (Nat.le_succ _) ⟨?_, out, ep, q1, he'⟩, rfl, k _ (I.hok.fresh (Nat.le_succ _))⟩
    rw [List.length_map, List.length_mergeSort, List.length_zip, ← hlen, Nat.min_self]
    exact hz
end
end PG

set_option Elab.async false
set_option linter.all false
set_option maxRecDepth 100000
set_option maxHeartbeats 4000000
namespace PG
open PySem PySem.Spec PyProof.Rows L2
open PySem.W (T3 T4 Datum DatumOrd Holds HoldAll EachIs)

instance (i j : Int) : Decidable (CMulW i j) := inferInstanceAs (Decidable (_ < _))
instance (i j : Int) : Decidable (CDivW i j) := inferInstanceAs (Decidable (_ ∧ _))
instance (i j : Int) : Decidable (CPow i j) := inferInstanceAs (Decidable (_ ∧ _ ∧ _))
theorem szl : sizeLine = 16777216 := sizeLine_eq
theorem lt_line {n : Nat} (h : n < 16777216) : n < sizeLine := by rw [szl]; exact h
theorem le_line {n : Nat} (h : n < 16777216) : n ≤ sizeLine := Nat.le_of_lt (lt_line h)
theorem len_line {vs : List V} (h : vs.length < 16777216 := by (show _ < 16777216); simp) : vs.length ≤ sizeLine := le_line h
theorem SqLF {K : PySem.W.Frag} {F H : Hp} {p : Addr} {vs : List V} (s : Same F H) (h : F p = some (.lst vs)) : SqL K H p vs := SqL.of (s _ _ h)
theorem SqTF {K : PySem.W.Frag} {F H : Hp} {p : Addr} {vs : List V} (s : Same F H) (h : F p = some (.tup vs)) : SqT K H p vs := SqT.of (s _ _ h)

/-! ### mirrors of what may go wrong -/
def setI {a : Type} (xs : List a) (i : Int) (y : a) : M (List a) := match ixN xs.length i with
  | some j => .ok (xs.set j y)
  | none => bad
def popI {a : Type} (xs : List a) (i : Int) : M (a × List a) := if xs.length < 16777216 then (match ixN xs.length i with
    | some j => (match xs[j]? with
      | some y => .ok (y, xs.eraseIdx j)
      | none => bad)
    | none => bad) else bad
def popL {a : Type} (xs : List a) : M (a × List a) := match xs[xs.length - 1]? with
  | some y => .ok (y, xs.dropLast)
  | none => bad
def appL {a : Type} (xs : List a) (y : a) : M (List a) := if xs.length < 16777216 then .ok (xs ++ [y]) else bad
def rangeL (lo hi : Int) : List Int := (List.range (hi - lo).toNat).map fun (i : Nat) => lo + (i : Int)
def okR (i : Int) : Prop := -1000000 ≤ i ∧ i ≤ 1000000
instance (i : Int) : Decidable (okR i) := inferInstanceAs (Decidable (_ ∧ _))
theorem okR.lo {i : Int} (h : okR i) : -(2 ^ 62) ≤ i := by obtain ⟨a, b⟩ := h; omega
theorem okR.hi {i : Int} (h : okR i) : i < 2 ^ 62 := by obtain ⟨a, b⟩ := h; omega
theorem rangeL_get {lo hi : Int} {i : Nat} (h : i < (hi - lo).toNat) : (rangeL lo hi).drop i = (lo + (i : Int)) :: (rangeL lo hi).drop (i + 1) := by
  unfold rangeL
  rw [List.drop_eq_getElem_cons (by simpa using h)]
  simp
theorem rangeL_end {lo hi : Int} : (rangeL lo hi).drop (hi - lo).toNat = [] := by
  rw [List.drop_eq_nil_iff]
  unfold rangeL
  simp
section
variable {a b : Type} {Q : a → Prop} {E : String → Prop} {H : Hp}
theorem wp_setI {xs : List b} {i : Int} {y : b} {k : List b → M a} (h : wp (setI xs i y >>= k) Q E) : ∃ j, ixN xs.length i = some j ∧ wp (k (xs.set j y)) Q E := by
  unfold setI at h
  cases e : ixN xs.length i with
  | none => rw [e] at h; exact h.elim
  | some j => rw [e] at h; exact ⟨j, rfl, h⟩
theorem wp_popI {xs : List b} {i : Int} {k : b × List b → M a} (h : wp (popI xs i >>= k) Q E) : ∃ j y, seqIndex? i xs.length = some j ∧ -(2 ^ 63) ≤ i ∧ i < 2 ^ 63 ∧ xs[j]? = some y ∧ wp (k (y, xs.eraseIdx j)) Q E := by
  unfold popI at h
  by_cases hl : xs.length < 16777216
  · rw [if_pos hl] at h
    cases e : ixN xs.length i with
    | none => rw [e] at h; exact h.elim
    | some j =>
      rw [e] at h
      have h : wp ((match xs[j]? with
        | some y => .ok (y, xs.eraseIdx j)
        | none => bad) >>= k) Q E := h
      cases e2 : xs[j]? with
      | none => rw [e2] at h; exact h.elim
      | some y =>
        rw [e2] at h
        obtain ⟨q1, q2, q3, q4⟩ := ixN_seq e
        exact ⟨j, y, q1, by omega, by omega, e2, h⟩
  · rw [if_neg hl] at h
    exact h.elim
theorem wp_popL {xs : List b} {k : b × List b → M a} (h : wp (popL xs >>= k) Q E) : ∃ y, xs[xs.length - 1]? = some y ∧ wp (k (y, xs.dropLast)) Q E := by
  unfold popL at h
  cases e : xs[xs.length - 1]? with
  | none => rw [e] at h; exact h.elim
  | some y => rw [e] at h; exact ⟨y, rfl, h⟩
theorem wp_appL {xs : List b} {y : b} {k : List b → M a} (h : wp (appL xs y >>= k) Q E) : xs.length < sizeLine ∧ wp (k (xs ++ [y])) Q E := by
  unfold appL at h
  by_cases hl : xs.length < 16777216
  · rw [if_pos hl] at h
    exact ⟨lt_line hl, h⟩
  · rw [if_neg hl] at h
    exact h.elim
end
/-! loops, by what is left to be done -/
section
variable {i s r a c : Type} {Q : a → Prop} {E : String → Prop}
theorem loopN_L {b : i → s → M s} {xs : List i} {x : s} {k : s → M a} (h : wp (loopN b xs x >>= k) Q E) :
    ∃ L : List i → s → Prop, L xs x ∧ (∀ y ys x, L (y :: ys) x → wp (b y x) (fun x' => L ys x') E) ∧ ∀ x, L [] x → wp (k x) Q E := by
  refine ⟨fun ys x => wp (loopN b ys x >>= k) Q E, h, fun y ys x hx => ?_, fun x hx => hx⟩
  have hx : wp (loopN b (y :: ys) x >>= k) Q E := hx
  rw [wp_bind] at hx
  have hx : wp (b y x >>= fun x' => loopN b ys x') (fun x => wp (k x) Q E) E := hx
  rw [wp_bind] at hx
  cases e : b y x with
  | ok z =>
    rw [e] at hx
    exact wp_bind.mpr hx
  | error e2 =>
    rw [e] at hx
    cases e2 <;> exact hx
theorem loopM_L {b : i → s → M (Fl s r)} {xs : List i} {x : s} {k : Fl s r → M a} (h : wp (loopM b xs x >>= k) Q E) :
    ∃ L : List i → s → Prop, L xs x ∧ (∀ y ys x, L (y :: ys) x → wp (b y x) (fun f => match f with
      | .nx x' => L ys x'
      | .rt z => wp (k (.rt z)) Q E) E) ∧ ∀ x, L [] x → wp (k (.nx x)) Q E := by
  refine ⟨fun ys x => wp (loopM b ys x >>= k) Q E, h, fun y ys x hx => ?_, fun x hx => hx⟩
  have hx : wp (loopM b (y :: ys) x >>= k) Q E := hx
  rw [wp_bind] at hx
  cases e : b y x with
  | ok z =>
    have hx : wp (b y x >>= fun f => match f with
      | .nx x' => loopM b ys x'
      | .rt z => .ok (.rt z)) (fun x => wp (k x) Q E) E := hx
    rw [e] at hx
    cases z with
    | nx z => exact wp_bind.mpr hx
    | rt z => exact hx
  | error e2 =>
    have hx : wp (b y x >>= fun f => match f with
      | .nx x' => loopM b ys x'
      | .rt z => .ok (.rt z)) (fun x => wp (k x) Q E) E := hx
    rw [e] at hx
    cases e2 <;> exact hx
theorem whileN_L {c : s → M Bool} {b : s → M s} {n : Nat} {x : s} {k : s → M a} (h : wp (whileN c b n x >>= k) Q E) :
    ∃ L : Nat → s → Prop, L n x ∧ ∀ m x, L m x → wp (c x) (fun t => if t = true then ∃ m', m' < m ∧ wp (b x) (fun x' => L m' x') E else wp (k x) Q E) E := by
  refine ⟨fun n x => wp (whileN c b n x >>= k) Q E, h, fun m x hx => ?_⟩
  cases m with
  | zero => exact hx.elim
  | succ m =>
    have hx : wp ((c x >>= fun t => if t = true then b x >>= fun x' => whileN c b m x' else .ok x) >>= k) Q E := hx
    rw [wp_bind, wp_bind] at hx
    cases e : c x with
    | error e2 => rw [e] at hx; cases e2 <;> exact hx
    | ok t =>
      rw [e] at hx
      cases t with
      | false => exact hx
      | true =>
        refine ⟨m, Nat.lt_succ_self m, ?_⟩
        have hx : wp (b x >>= fun x' => whileN c b m x') (fun x => wp (k x) Q E) E := hx
        rw [wp_bind] at hx
        cases e : b x with
        | error e2 => rw [e] at hx; cases e2 <;> exact hx
        | ok z =>
          rw [e] at hx
          exact wp_bind.mpr hx
theorem whileM_L {c : s → M Bool} {b : s → M (Fl s r)} {n : Nat} {x : s} {k : Fl s r → M a} (h : wp (whileM c b n x >>= k) Q E) :
    ∃ L : Nat → s → Prop, L n x ∧ ∀ m x, L m x → wp (c x) (fun t => if t = true then ∃ m', m' < m ∧ wp (b x) (fun f => match f with
      | .nx x' => L m' x'
      | .rt z => wp (k (.rt z)) Q E) E else wp (k (.nx x)) Q E) E := by
  refine ⟨fun n x => wp (whileM c b n x >>= k) Q E, h, fun m x hx => ?_⟩
  cases m with
  | zero => exact hx.elim
  | succ m =>
    have hx : wp ((c x >>= fun t => if t = true then b x >>= fun
      | .nx x' => whileM c b m x'
      | .rt z => .ok (.rt z)
    else .ok (.nx x)) >>= k) Q E := hx
    rw [wp_bind, wp_bind] at hx
    cases e : c x with
    | error e2 => rw [e] at hx; cases e2 <;> exact hx
    | ok t =>
      rw [e] at hx
      cases t with
      | false => exact hx
      | true =>
        refine ⟨m, Nat.lt_succ_self m, ?_⟩
        have hx : wp (b x >>= fun
          | .nx x' => whileM c b m x'
          | .rt z => .ok (.rt z)) (fun x => wp (k x) Q E) E := hx
        rw [wp_bind] at hx
        cases e : b x with
        | error e2 => rw [e] at hx; cases e2 <;> exact hx
        | ok z =>
          rw [e] at hx
          cases z with
          | nx z => exact wp_bind.mpr hx
          | rt z => exact hx
/-- a comprehension: what it has made so far, then the items left; no exception leaves it -/
def compX (b : i → s → M (Option c × s)) : List i → List c → s → M (List c × s)
  | [], acc, x => .ok (acc, x)
  | y :: ys, acc, x => nox (b y x) >>= fun p => compX b ys (match p.1 with
    | some z => acc ++ [z]
    | none => acc) p.2
/-- the list is short enough -/
def compS (b : i → s → M (Option c × s)) (xs : List i) (x : s) : M (List c × s) := chk (xs.length < 16777216) >>= fun _ => compX b xs [] x
theorem compX_L {b : i → s → M (Option c × s)} {k : List c × s → M a} : ∀ {xs : List i} {acc : List c} {x : s}, wp (compX b xs acc x >>= k) Q E →
    ∃ L : List i → List c → s → Prop, L xs acc x ∧ (∀ y ys acc x, L (y :: ys) acc x → wp (b y x) (fun p => L ys (match p.1 with
      | some z => acc ++ [z]
      | none => acc) p.2) (fun _ => False)) ∧ ∀ acc x, L [] acc x → wp (k (acc, x)) Q E := by
  intro xs acc x h
  refine ⟨fun ys acc x => wp (compX b ys acc x >>= k) Q E, h, fun y ys acc x hx => ?_, fun acc x hx => hx⟩
  have hx : wp ((nox (b y x) >>= fun p => compX b ys (match p.1 with
    | some z => acc ++ [z]
    | none => acc) p.2) >>= k) Q E := hx
  rw [wp_bind] at hx
  obtain ⟨p, e, hx⟩ := wp_nox hx
  rw [e]
  exact wp_bind.mpr hx
theorem compS_L {b : i → s → M (Option c × s)} {k : List c × s → M a} {xs : List i} {x : s} (h : wp (compS b xs x >>= k) Q E) : xs.length < 16777216 ∧
    ∃ L : List i → List c → s → Prop, L xs [] x ∧ (∀ y ys acc x, L (y :: ys) acc x → wp (b y x) (fun p => L ys (match p.1 with
      | some z => acc ++ [z]
      | none => acc) p.2) (fun _ => False)) ∧ ∀ acc x, L [] acc x → wp (k (acc, x)) Q E := by
  unfold compS at h
  rw [wp_bind] at h
  obtain ⟨h1, h2⟩ := wp_chk h
  exact ⟨h1, compX_L (wp_bind.mpr h2)⟩
end
theorem drop_at {a : Type} {xs : List a} {i : Nat} {x : a} (h : xs[i]? = some x) : xs.drop i = x :: xs.drop (i + 1) := by
  obtain ⟨h1, h2⟩ := List.getElem?_eq_some_iff.mp h
  rw [List.drop_eq_getElem_cons h1, h2]
theorem drop_end {a : Type} {xs : List a} {vs : List V} (h : vs.length = xs.length) : xs.drop vs.length = [] := by
  rw [h, List.drop_length]

/-! ### a def as it stands -/
structure Df (K : PySem.W.Frag) (mg : Str → Option Value) (x qual : Str) (st : Stmt) (ps : List Str) : Prop where
  ex : ∃ f fd, Fun K x qual st f fd ∧ mg x = some (.ref f) ∧ Binds K fd ps []
structure Ca (P : Program) (w : World) (K : PySem.W.Frag) (mg : Str → Option Value) (base : Heap) (x : Str) (k : Nat) (ps : List Str) (sp : Sp) : Prop where
  ex : ∃ f fd, FnOk P w K mg base (L2.CX P w) k f fd ps sp ∧ mg x = some (.ref f) ∧ PySem.W.keepIn K (.ref f) = true ∧ Binds K fd ps []
/-- an exception class of the program -/
structure Xc (K : PySem.W.Frag) (mg : Str → Option Value) (x : Str) (C : Addr) : Prop where
  g : mg x = some (.ref C)
  x : PySem.W.excIn K C [.type "ValueError", .type "Exception", .type "BaseException", .type "object"] "ValueError.__new__" = true
  k : PySem.W.keepIn K (.ref C) = true
  b : PySem.W.subIn K (.ref C) (.type "BaseException") = some true
  t : PySem.W.typeIn K (.ref C) = some (.type "type")
section
variable {P : Program} {w : World} {K : PySem.W.Frag} {mg : Str → Option Value} {base : Heap}
theorem Ca.mk' {x qual : Str} {st : Stmt} {N ps : List Str} {k : Nat} {sp : Sp} (D : Df K mg x qual st ps) (S : FnScope N ps (defScope st)) (len : ∀ vs H Q E, sp vs H Q E → vs.length = ps.length)
    (hbody : ∀ (qual' : Str) (f : Addr) (cdv : Value) (A : Around) (outer : List Env) (s : Shared) (H : Hp) (vs : List V) (Q : VK) (E : XK), Room k (A.deeper (envOfC qual (defScope st) s.heap.objs.size f cdv)) → sp vs H Q E →
      ∃ t, PSs (cxOf (L2.CX P w) P w K mg base N qual (defScope st) f cdv A outer s H E) (defBody st) t ∧ t { nx := fun _ H' => Q .non H', rt := Q } (start N vs) H) : Ca P w K mg base x (k + 1) ps sp := by
  obtain ⟨f, fd, F, m, b⟩ := D.ex
  exact ⟨f, fd, F.okX S len fun cdv A outer s H vs Q E hr h => hbody qual f cdv A outer s H vs Q E hr h, m, F.kp, b⟩
end
section
variable {X : Cx}
/-- len of a list or tuple -/
def rLenT : List V → Hp → VK → Prop := fun vs H Q => ∃ (l : Addr) (ws : List V) (n : Nat), vs = [.ref l] ∧ (H l = some (.lst ws) ∨ H l = some (.tup ws)) ∧ ws.length = n ∧ Q (.int n) H
theorem call_lenT : CallR X (.builtin "len") rLenT := by
  intro pins s σ H vs us Q I r h
  obtain ⟨l, ws, n, e, hl, rfl, k⟩ := h
  refine call_len_seq pins s σ H vs us Q I r ⟨l, ws, e, ?_, k⟩
  rcases hl with hl | hl
  · exact .inl (SqL.of hl)
  · exact .inr (SqT.of hl)
end

section
variable {Z : Ent} {F F' H H' : Hp} {cs : List (Addr × HO)} {p a : Addr} {o o' : HO}
theorem Ow.putE (O : Ow Z F cs H) (h : H p = none) (o : HO) : ∃ F', Ow Z F' cs (upd H p o) ∧ Same F F' ∧ F' p = some o := ⟨_, O.put h, O.putS h, upd_same⟩
theorem Ow.was (O : Ow Z F cs H) (h : H p = none) : Z.H p = none := by
  cases q : Z.H p with
  | none => rfl
  | some u => exact absurd h (O.g.t p (by rw [q]; simp))
theorem Ow.frzE (O : Ow Z F cs H) (i : Nat) (e : cs[i]? = some (a, o)) (hz : Z.H a = none) : ∃ F', Ow Z F' (cs.eraseIdx i) H ∧ Same F F' ∧ F' a = some o := ⟨_, O.frz i e hz, O.frzS i e, upd_same⟩
/-- a cell that a call made -/
theorem Ow.got (O : Ow Z F cs H) (O' : Ow Z F' cs' H') (hk : cs'.map (·.1) = cs.map (·.1)) (hn : H p = none) (hf : F' p = none) (h : H' p = some o) (ht : noTup o = true := by rfl) : Ow Z F' ((p, o) :: cs') H' :=
  O'.add O (fun c hc => by rw [← hk]; exact List.mem_map.mpr ⟨c, hc, rfl⟩) hn hf h ht
end
theorem rangeL_get0 {n : Int} {i : Nat} (h : i < n.toNat) : (rangeL 0 n).drop i = (0 + (i : Int)) :: (rangeL 0 n).drop (i + 1) := rangeL_get (by simpa using h)
theorem rangeL_end0 {n : Int} : (rangeL 0 n).drop n.toNat = [] := by
  have := rangeL_end (lo := 0) (hi := n)
  simpa using this
theorem iteD {c A B : Prop} [Decidable c] (h1 : c → A) (h2 : ¬ c → B) : if decide c = true then A else B := by
  by_cases h : c
  · rw [decide_eq_true h, if_pos rfl]; exact h1 h
  · rw [decide_eq_false h, if_neg Bool.false_ne_true]; exact h2 h
theorem iteN {c A B : Prop} [Decidable c] (h1 : c → B) (h2 : ¬ c → A) : if (!decide c) = true then A else B := by
  by_cases h : c
  · rw [decide_eq_true h]; exact h1 h
  · rw [decide_eq_false h]; exact h2 h
theorem iteB {b : Bool} {A B : Prop} (h1 : b = true → A) (h2 : ¬ b = true → B) : if b = true then A else B := by
  cases b with
  | true => exact h1 rfl
  | false => exact h2 Bool.false_ne_true
theorem iteBN {b : Bool} {A B : Prop} (h1 : b = true → B) (h2 : ¬ b = true → A) : if (!b) = true then A else B := by
  cases b with
  | true => exact h1 rfl
  | false => exact h2 Bool.false_ne_true
theorem iteNT {A B : Prop} (h : B) : if (!true) = true then A else B := h
theorem iteNF {A B : Prop} (h : A) : if (!false) = true then A else B := h
theorem wp_if {a : Type} {Q : a → Prop} {E : String → Prop} {c : Prop} [Decidable c] {x y : M a} (h : wp (if c then x else y) Q E) (hc : c) : wp x Q E := by
  rw [if_pos hc] at h
  exact h
theorem wp_el {a : Type} {Q : a → Prop} {E : String → Prop} {c : Prop} [Decidable c] {x y : M a} (h : wp (if c then x else y) Q E) (hc : ¬ c) : wp y Q E := by
  rw [if_neg hc] at h
  exact h

theorem hu128_of {A : Around} {k : Nat} (hr : Room k A) : A.units + 128 < cLine := by have := hr.un; omega
def cutL {a : Type} (xs : List a) (lo hi : Option Int) : List a := (xs.drop (HT.sIx xs.length 0 lo)).take (HT.sIx xs.length xs.length hi - HT.sIx xs.length 0 lo)
theorem RL.cutL {a : Type} [Py a] {H : Hp} {vs : List V} {xs : List a} (h : RL H vs xs) (lo hi : Option Int) : RL H (cutV vs lo hi) (PG.cutL xs lo hi) := h.cut lo hi
theorem RL.last {a : Type} [Py a] {H : Hp} {vs : List V} {xs : List a} {y : a} (h : RL H vs xs) (e : xs[xs.length - 1]? = some y) : ∃ w, vs[vs.length - 1]? = some w ∧ R H w y := by
  obtain ⟨w, e1, h1⟩ := h.get e
  exact ⟨w, by rw [h.len]; exact e1, h1⟩

theorem okR.rg1 {n : Int} (h : okR n) : RgOk 0 n := by
  obtain ⟨a, b⟩ := h
  exact ⟨by omega, by omega, by omega, by omega, by omega⟩
theorem rgV_eq (a b : Int) : rgV a b = (rangeL a b).map V.int := by
  unfold rgV rangeL
  rw [List.map_map]
  rfl
theorem RL.rg {H : Hp} {a b : Int} : RL H (rgV a b) (rangeL a b) := by
  rw [rgV_eq]
  exact RL.of_ints

theorem comp_len {b : Type} {w vs : List V} {xs : List b} {i : Nat} {x : V} (la : w.length ≤ i) (hi : vs[i]? = some x) (hl : vs.length = xs.length) (c : xs.length < 16777216) : w.length < sizeLine := by
  have := (List.getElem?_eq_some_iff.mp hi).1
  exact lt_line (by omega)
theorem rangeL_length (lo hi : Int) : (rangeL lo hi).length = (hi - lo).toNat := by
  unfold rangeL
  simp
theorem comp_lenR {w : List V} {lo hi : Int} {i n : Nat} (la : w.length ≤ i) (h : i < n) (e : (hi - lo).toNat = n) (c : (rangeL lo hi).length < 16777216) : w.length < sizeLine := by
  rw [rangeL_length] at c
  exact lt_line (by omega)
theorem tYes_ {σ : L2.St} {H : Hp} {Q : Bool → Hp → Prop} (h : Q true H) : tYes σ H Q := h

/-! lists of own lists of ints -/
abbrev LC := Addr × List Int
def lcell (c : LC) : Addr × HO := (c.1, .lst (c.2.map V.int))
theorem Ow.perm {Z : Ent} {F H : Hp} {cs cs' : List (Addr × HO)} (O : Ow Z F cs H) (h : cs.Perm cs') : Ow Z F cs' H where
  g := O.g
  cf := fun c hc => O.cf c (h.mem_iff.mpr hc)
  ch := fun c hc => O.ch c (h.mem_iff.mpr hc)
  nd := (h.map _).nodup_iff.mp O.nd
  ca := fun c hc => O.ca c (h.mem_iff.mpr hc)
  nt := fun c hc => O.nt c (h.mem_iff.mpr hc)
theorem Ow.sub {Z : Ent} {F H : Hp} {cs cs' : List (Addr × HO)} (O : Ow Z F cs H) (h : cs'.Sublist cs) : Ow Z F cs' H where
  g := O.g
  cf := fun c hc => O.cf c (h.subset hc)
  ch := fun c hc => O.ch c (h.subset hc)
  nd := O.nd.sublist (h.map _)
  ca := fun c hc => O.ca c (h.subset hc)
  nt := fun c hc => O.nt c (h.subset hc)
/-- a new list of new lists -/
structure OwnLL (H F' H' : Hp) (p : Addr) (ps : List LC) : Prop where
  pn : H p = none
  pf : F' p = none
  ph : H' p = some (.lst (ps.map fun c => V.ref c.1))
  qn : ∀ c ∈ ps, H c.1 = none
  qf : ∀ c ∈ ps, F' c.1 = none
  qh : ∀ c ∈ ps, H' c.1 = some (.lst (c.2.map V.int))
  nd : (p :: ps.map (·.1)).Nodup
theorem OwnLL.frz {F H F' H' : Hp} {p : Addr} {ps : List LC} {as : List Addr} (G : Gr as F H F' H') (L : OwnLL H F' H' p ps) :
    ∃ F2, Gr as F H F2 H' ∧ F2 p = none ∧ RL F2 (ps.map fun c => V.ref c.1) (ps.map (·.2)) := by
  refine ⟨fun b => if b ∈ ps.map (·.1) then H' b else F' b, ⟨fun b o e => ?_, fun b o e => ?_, G.k, G.t, fun b e => ?_, G.u⟩, ?_, ?_⟩
  · have h1 := G.f b o e
    by_cases hb : b ∈ ps.map (·.1)
    · obtain ⟨c, hc, rfl⟩ := List.mem_map.mp hb
      rw [L.qf c hc] at h1
      cases h1
    · show (if b ∈ ps.map (·.1) then H' b else F' b) = some o
      rw [if_neg hb]
      exact h1
  · have e : (if b ∈ ps.map (·.1) then H' b else F' b) = some o := e
    by_cases hb : b ∈ ps.map (·.1)
    · rw [if_pos hb] at e
      exact e
    · rw [if_neg hb] at e
      exact G.s b o e
  · show (if b ∈ ps.map (·.1) then H' b else F' b) = F b ∨ _
    have hb : b ∉ ps.map (·.1) := fun hb => by
      obtain ⟨c, hc, rfl⟩ := List.mem_map.mp hb
      exact e (L.qn c hc)
    rw [if_neg hb]
    exact G.n b e
  · show (if p ∈ ps.map (·.1) then H' p else F' p) = none
    rw [if_neg (List.nodup_cons.mp L.nd).1]
    exact L.pf
  · have all : ∀ l : List LC, (∀ c ∈ l, c ∈ ps) → RL (fun b => if b ∈ ps.map (·.1) then H' b else F' b) (l.map fun c => V.ref c.1) (l.map (·.2)) := by
      intro l
      induction l with
      | nil => intro _; exact RL.nil
      | cons c l ih =>
        intro h
        have hc := h c List.mem_cons_self
        refine RL.cons (R.lst (vs := c.2.map V.int) ?_ RL.of_ints) (ih fun d hd => h d (List.mem_cons_of_mem _ hd))
        show (if c.1 ∈ ps.map (·.1) then H' c.1 else F' c.1) = _
        rw [if_pos (List.mem_map.mpr ⟨c, hc, rfl⟩)]
        exact L.qh c hc
    exact all ps fun _ h => h
theorem FnOk.impC {P : Program} {w : World} {K : PySem.W.Frag} {mg : Str → Option Value} {base : Heap} {x : Str} {k : Nat} {ps : List Str} {sp sp' : Sp} (F : Ca P w K mg base x k ps sp) (h : ∀ vs H Q E, sp' vs H Q E → sp vs H Q E) : Ca P w K mg base x k ps sp' := by
  obtain ⟨f, fd, G, m, kp, b⟩ := F.ex
  exact ⟨f, fd, G.imp h, m, kp, b⟩
theorem wp_mono {a : Type} {Q Q' : a → Prop} {E : String → Prop} {m : M a} (h : wp m Q E) (f : ∀ r, Q r → Q' r) : wp m Q' E := wp_tail h (fun r _ q => f r q) fun _ e => e
/-- a scalar call that reads a cell: the cell is as it was, and nothing of the call is kept -/
theorem Ow.borrow {Z : Ent} {F F1 F' H H' : Hp} {cs : List (Addr × HO)} (O : Ow Z F cs H) (s1 : Same F F1) (g : Gr [] F1 H F' H') : Ow Z F cs H' where
  g := ⟨O.g.f, (s1.trans g.f).trans g.s, fun b o hb e => g.k b o (fun h => nomatch h) (O.g.k b o hb e), fun b e => g.t b (O.g.t b e), O.g.n, fun b xs e => by
    rcases g.u b xs e with z | z
    · refine .inl ?_
      cases q : Z.H b with
      | none => rfl
      | some u => exact absurd z (O.g.t b (by rw [q]; simp))
    · exact O.g.u b xs z⟩
  cf := O.cf
  ch := fun c hc => g.k _ _ (fun h => nomatch h) (O.ch c hc)
  nd := O.nd
  ca := O.ca
  nt := O.nt
theorem Ow.lend {Z : Ent} {F H : Hp} {cs : List (Addr × HO)} {a : Addr} {o : HO} (O : Ow Z F cs H) (i : Nat) (e : cs[i]? = some (a, o)) : ∃ F1, Same F F1 ∧ Pre F1 [] H ∧ F1 a = some o := by
  have m := List.mem_of_getElem? e
  refine ⟨upd F a o, Same.new (O.cf _ m), ⟨fun b u q => ?_, (fun _ h => nomatch h), (fun _ h => nomatch h), List.nodup_nil, fun _ h => nomatch h⟩, upd_same⟩
  by_cases hb : b = a
  · subst hb; rw [upd_same] at q; rw [← q]; exact O.ch _ m
  · rw [upd_ne hb] at q; exact O.s b u q

abbrev lrefs (ps : List LC) : List V := ps.map fun (c : LC) => V.ref c.1

def ret {a : Type} (x : a) : M a := .ok x
theorem wp_ret {a b : Type} {Q : a → Prop} {E : String → Prop} {x : b} {k : b → M a} (h : wp (ret x >>= k) Q E) : ∃ y, y = x ∧ wp (k y) Q E := ⟨x, rfl, h⟩

/-- tuples that stand may be read -/
theorem Ow.tups {Z : Ent} {F H : Hp} {cs : List (Addr × HO)} (O : Ow Z F cs H) (bs : List Addr) (h : ∀ b ∈ bs, ∃ xs, H b = some (.tup xs)) : ∃ F', Ow Z F' cs H ∧ Same F F' ∧ ∀ b ∈ bs, F' b = H b := by
  refine ⟨fun b => if b ∈ bs then H b else F b, ⟨⟨fun b o e => ?_, fun b o e => ?_, O.g.k, O.g.t, fun b e => ?_, O.g.u⟩, fun c hc => ?_, O.ch, O.nd, O.ca, O.nt⟩, fun b o e => ?_, fun b hb => if_pos hb⟩
  · have h1 := O.g.f b o e
    show (if b ∈ bs then H b else F b) = some o
    by_cases hb : b ∈ bs
    · rw [if_pos hb]; exact O.s b o h1
    · rw [if_neg hb]; exact h1
  · have e : (if b ∈ bs then H b else F b) = some o := e
    by_cases hb : b ∈ bs
    · rw [if_pos hb] at e; exact e
    · rw [if_neg hb] at e; exact O.s b o e
  · show (if b ∈ bs then H b else F b) = Z.F b ∨ _
    by_cases hb : b ∈ bs
    · obtain ⟨xs, hx⟩ := h b hb
      rcases O.g.u b xs hx with z | z
      · exact absurd z e
      · exact .inr ⟨xs, z⟩
    · rw [if_neg hb]; exact O.g.n b e
  · show (if c.1 ∈ bs then H c.1 else F c.1) = none
    by_cases hb : c.1 ∈ bs
    · obtain ⟨xs, hx⟩ := h c.1 hb
      have hn := O.nt c hc
      rw [O.ch c hc] at hx
      rw [Option.some.inj hx] at hn
      cases hn
    · rw [if_neg hb]; exact O.cf c hc
  · show (if b ∈ bs then H b else F b) = some o
    by_cases hb : b ∈ bs
    · rw [if_pos hb]; exact O.s b o e
    · rw [if_neg hb]; exact e
end PG

set_option Elab.async false
set_option linter.all false
set_option maxRecDepth 100000
set_option maxHeartbeats 4000000
namespace PG
open PySem PySem.Spec PyProof.Rows L2
open PySem.W (T3 T4 Datum DatumOrd Holds HoldAll EachIs)

theorem u1_of {n : Nat} (h : n + 64 < cLine) : n + 1 < cLine := Nat.lt_of_le_of_lt (Nat.add_le_add_left (by decide) _) h
/-! ### dicts: what stands for a key -/
class DK (κ : Type) (K' : outParam Type) where
  kk : κ → K'
  inj : ∀ a b, kk a = kk b → a = b
instance : DK Int Key := ⟨Sum.inl, fun _ _ h => Sum.inl.inj h⟩
instance : DK Str Key := ⟨Sum.inr, fun _ _ h => Sum.inr.inj h⟩
instance : DK (Int × Int) (List Key) := ⟨fun p => [.inl p.1, .inl p.2], fun a b h => by
  injection h with h1 h2
  injection h2 with h2 _
  exact Prod.ext (Sum.inl.inj h1) (Sum.inl.inj h2)⟩
section
variable {κ K' β : Type} [DK κ K'] [Py β]
inductive RD (F : Hp) : List (K' × V) → List (κ × β) → Prop
  | nil : RD F [] []
  | cons {k : κ} {v : V} {y : β} {kvs : List (K' × V)} {xs : List (κ × β)} : R F v y → RD F kvs xs → RD F ((DK.kk k, v) :: kvs) ((k, y) :: xs)
variable {F F' : Hp}
theorem RD.mono {kvs : List (K' × V)} {xs : List (κ × β)} (h : RD F kvs xs) (s : Same F F') : RD F' kvs xs := by
  induction h with
  | nil => exact .nil
  | cons h _ ih => exact .cons (h.mono s) ih
theorem RD.len {kvs : List (K' × V)} {xs : List (κ × β)} (h : RD F kvs xs) : kvs.length = xs.length := by
  induction h with
  | nil => rfl
  | cons h _ ih => rw [List.length_cons, List.length_cons, ih]
theorem RD.keys {kvs : List (K' × V)} {xs : List (κ × β)} (h : RD F kvs xs) : kvs.map (·.1) = (xs.map (·.1)).map DK.kk := by
  induction h with
  | nil => rfl
  | cons h _ ih => rw [List.map_cons, List.map_cons, List.map_cons, ih]
end
section
variable {κ K' β : Type} [DK κ K'] [DecidableEq κ] [DecidableEq K'] [Py β] {F F' : Hp}
def dGet (xs : List (κ × β)) (k : κ) : Option β := (xs.find? fun p => decide (p.1 = k)).map (·.2)
def dPut (xs : List (κ × β)) (k : κ) (y : β) : List (κ × β) :=
  if (xs.any fun p => decide (p.1 = k)) = true then xs.map (fun p => if p.1 = k then (p.1, y) else p) else xs ++ [(k, y)]
def dHas (xs : List (κ × β)) (k : κ) : Bool := (dGet xs k).isSome
theorem kk_dec {a b : κ} : decide ((DK.kk a : K') = DK.kk b) = decide (a = b) := by
  by_cases h : a = b
  · subst h; simp
  · rw [decide_eq_false h, decide_eq_false fun z => h (DK.inj a b z)]
theorem dGet_pos {p : κ × β} {r : List (κ × β)} {k : κ} (e : p.1 = k) : dGet (p :: r) k = some p.2 := by simp [dGet, List.find?_cons, e]
theorem dGet_neg {p : κ × β} {r : List (κ × β)} {k : κ} (e : ¬ p.1 = k) : dGet (p :: r) k = dGet r k := by simp [dGet, List.find?_cons, e]
theorem RD.get {kvs : List (K' × V)} {xs : List (κ × β)} (h : RD F kvs xs) (k : κ) :
    (dGet xs k = none ∧ valV kvs (DK.kk k) = none) ∨ ∃ y v, dGet xs k = some y ∧ valV kvs (DK.kk k) = some v ∧ R F v y := by
  induction h with
  | nil => exact .inl ⟨rfl, rfl⟩
  | @cons j v y kvs xs h hs ih =>
    by_cases e : j = k
    · exact .inr ⟨y, v, dGet_pos e, valV_pos (by rw [e]), h⟩
    · rw [dGet_neg (p := (j, y)) e, valV_neg (fun z => e (DK.inj j k z))]
      exact ih
theorem RD.some {kvs : List (K' × V)} {xs : List (κ × β)} (h : RD F kvs xs) {k : κ} {y : β} (e : dGet xs k = some y) : ∃ v, valV kvs (DK.kk k) = some v ∧ R F v y := by
  rcases h.get k with ⟨a, _⟩ | ⟨y', v, a, b, c⟩
  · rw [e] at a; cases a
  · rw [e] at a; cases a; exact ⟨v, b, c⟩
theorem RD.is {kvs : List (K' × V)} {xs : List (κ × β)} (h : RD F kvs xs) (k : κ) : (valV kvs (DK.kk k)).isSome = dHas xs k := by
  unfold dHas
  rcases h.get k with ⟨a, b⟩ | ⟨y', v, a, b, c⟩
  · rw [a, b]; rfl
  · rw [a, b]; rfl
theorem RD.map {kvs : List (K' × V)} {xs : List (κ × β)} (h : RD F kvs xs) (k : κ) {v : V} {y : β} (hv : R F v y) :
    RD F (kvs.map fun kv => if kv.1 = DK.kk k then (kv.1, v) else kv) (xs.map fun p => if p.1 = k then (p.1, y) else p) := by
  induction h with
  | nil => exact .nil
  | @cons j u z kvs xs h hs ih =>
    rw [List.map_cons, List.map_cons]
    by_cases e : j = k
    · rw [if_pos e, if_pos (show (DK.kk j, u).1 = DK.kk k by rw [e])]
      exact .cons hv ih
    · rw [if_neg e, if_neg (show ¬ (DK.kk j, u).1 = DK.kk k from fun z => e (DK.inj j k z))]
      exact .cons h ih
theorem RD.snoc {kvs : List (K' × V)} {xs : List (κ × β)} (h : RD F kvs xs) (k : κ) {v : V} {y : β} (hv : R F v y) : RD F (kvs ++ [(DK.kk k, v)]) (xs ++ [(k, y)]) := by
  induction h with
  | nil => exact .cons hv .nil
  | cons h _ ih => exact .cons h ih
theorem RD.any {kvs : List (K' × V)} {xs : List (κ × β)} (h : RD F kvs xs) (k : κ) : (kvs.any fun kv => decide (kv.1 = DK.kk k)) = (xs.any fun p => decide (p.1 = k)) := by
  induction h with
  | nil => rfl
  | @cons j u z kvs xs h hs ih => rw [List.any_cons, List.any_cons, ih, kk_dec]
theorem RD.put {kvs : List (K' × V)} {xs : List (κ × β)} (h : RD F kvs xs) (k : κ) {v : V} {y : β} (hv : R F v y) : RD F (putK kvs (DK.kk k) v) (dPut xs k y) := by
  unfold putK dPut
  rw [h.any k]
  by_cases e : (xs.any fun p => decide (p.1 = k)) = true
  · rw [if_pos e, if_pos e]; exact h.map k hv
  · rw [if_neg e, if_neg e]; exact h.snoc k hv
def putD (xs : List (κ × β)) (k : κ) (y : β) : M (List (κ × β)) := if xs.length < 16777216 then .ok (dPut xs k y) else bad
theorem wp_putD {a : Type} {Q : a → Prop} {E : String → Prop} {xs : List (κ × β)} {j : κ} {y : β} {k : List (κ × β) → M a} (h : wp (putD xs j y >>= k) Q E) : xs.length < sizeLine ∧ wp (k (dPut xs j y)) Q E := by
  unfold putD at h
  by_cases hl : xs.length < 16777216
  · rw [if_pos hl] at h
    exact ⟨lt_line hl, h⟩
  · rw [if_neg hl] at h
    exact h.elim
end
/-- a dict that is read alone -/
class DO (K' : Type) where
  ho : List (K' × V) → HO
instance : DO Key := ⟨.dK⟩
instance : DO (List Key) := ⟨.dT⟩
section
variable {κ K' β : Type} [DK κ K'] [Py β] [DO K'] {F F' H : Hp} {v : V} {a b : Addr}
def RDv (F : Hp) (v : V) (xs : List (κ × β)) : Prop := ∃ (a : Addr) (kvs : List (K' × V)), v = .ref a ∧ F a = some (DO.ho kvs) ∧ RD F kvs xs
theorem RDv.mono {xs : List (κ × β)} (h : RDv F v xs) (s : Same F F') : RDv F' v xs := by
  obtain ⟨a, kvs, e, h1, h2⟩ := h
  exact ⟨a, kvs, e, s _ _ h1, h2.mono s⟩
theorem RDv.mk {xs : List (κ × β)} {kvs : List (K' × V)} (h : F a = some (DO.ho kvs)) (hr : RD F kvs xs) : RDv F (.ref a) xs := ⟨a, kvs, rfl, h, hr⟩
end
section
variable {β : Type} [Py β] {F H : Hp} {a b : Addr}
theorem dget_T {kvs : List (List Key × V)} {i j : Int} {v : V} (e : H a = some (.dT kvs)) (eb : H b = some (.tup [.int i, .int j])) (hv : valV kvs (DK.kk (i, j)) = some v) : DGet H a (.ref b) (some v) := by
  rw [← hv]
  exact DGet.t (k := [.inl i, .inl j]) e eb
theorem dget_I {kvs : List (Key × V)} {i : Int} {v : V} (e : H a = some (.dK kvs)) (hv : valV kvs (DK.kk i) = some v) : DGet H a (.int i) (some v) := by
  rw [← hv]
  exact DGet.k (k := .inl i) e
theorem dget_S {kvs : List (Key × V)} {i : Str} {v : V} (e : H a = some (.dK kvs)) (hv : valV kvs (DK.kk i) = some v) : DGet H a (.str i) (some v) := by
  rw [← hv]
  exact DGet.k (k := .inr i) e
theorem din_T {kvs : List (List Key × V)} {i j : Int} {xs : List ((Int × Int) × β)} (e : H a = some (.dT kvs)) (eb : H b = some (.tup [.int i, .int j])) (hr : RD F kvs xs) : ∃ o, DGet H a (.ref b) o ∧ o.isSome = dHas xs (i, j) :=
  ⟨_, DGet.t (k := [.inl i, .inl j]) e eb, hr.is (i, j)⟩
theorem din_I {kvs : List (Key × V)} {i : Int} {xs : List (Int × β)} (e : H a = some (.dK kvs)) (hr : RD F kvs xs) : ∃ o, DGet H a (.int i) o ∧ o.isSome = dHas xs i :=
  ⟨_, DGet.k (k := .inl i) e, hr.is i⟩
theorem din_S {kvs : List (Key × V)} {i : Str} {xs : List (Str × β)} (e : H a = some (.dK kvs)) (hr : RD F kvs xs) : ∃ o, DGet H a (.str i) o ∧ o.isSome = dHas xs i :=
  ⟨_, DGet.k (k := .inr i) e, hr.is i⟩
theorem dput_T {kvs : List (List Key × V)} {i j : Int} {v : V} (e : H a = some (.dT kvs)) (eb : H b = some (.tup [.int i, .int j])) (hl : kvs.length < sizeLine) : DPut H a (.ref b) v (upd H a (.dT (putK kvs (DK.kk (i, j)) v))) := DPut.t (k := [.inl i, .inl j]) e eb hl
theorem dput_I {kvs : List (Key × V)} {i : Int} {v : V} (e : H a = some (.dK kvs)) (hl : kvs.length < sizeLine) : DPut H a (.int i) v (upd H a (.dK (putK kvs (DK.kk i) v))) := DPut.k (k := .inl i) e hl
theorem dput_S {kvs : List (Key × V)} {i : Str} {v : V} (e : H a = some (.dK kvs)) (hl : kvs.length < sizeLine) : DPut H a (.str i) v (upd H a (.dK (putK kvs (DK.kk i) v))) := DPut.k (k := .inr i) e hl
end
/-! sorted(d), the keys pairs of whole numbers -/
theorem keys_tups {H : Hp} {kvs : List (List Key × V)} {bs : List Addr} (h : IsKeys H kvs bs) : ∀ b ∈ bs, ∃ xs, H b = some (.tup xs) := by
  unfold IsKeys at h
  induction h with
  | nil => intro b hb; simp at hb
  | cons h t ih =>
    intro c hc
    rcases List.mem_cons.mp hc with rfl | hc
    · exact ⟨_, h⟩
    · exact ih c hc
theorem keys_rl {H : Hp} {kvs : List (List Key × V)} {bs : List Addr} (h : IsKeys H kvs bs) : ∀ {ks : List (Int × Int)}, kvs.map (·.1) = ks.map DK.kk → RL H (bs.map V.ref) ks := by
  unfold IsKeys at h
  induction h with
  | nil =>
    intro ks e
    cases ks with
    | nil => exact RL.nil
    | cons k ks => simp at e
  | cons h t ih =>
    intro ks e
    cases ks with
    | nil => simp at e
    | cons k ks =>
      rw [List.map_cons, List.map_cons] at e
      injection e with e1 e2
      rw [e1] at h
      exact RL.cons (R.t2 h R.int R.int) (ih e2)
theorem keys_in {H F : Hp} {kvs : List (List Key × V)} {bs : List Addr} {ks : List (Int × Int)} (h : IsKeys H kvs bs) (hf : ∀ b ∈ bs, F b = H b) (e : kvs.map (·.1) = ks.map DK.kk) : RL F (bs.map V.ref) ks := by
  refine keys_rl ?_ e
  unfold IsKeys at h ⊢
  clear e
  induction h with
  | nil => exact .nil
  | @cons x b xs bs h t ih =>
    refine .cons ?_ (ih fun c hc => hf c (List.mem_cons_of_mem _ hc))
    rw [hf b List.mem_cons_self]
    exact h
section
variable {X : Cx}
theorem cr_sortedDT (hcalm : X.calm = true) (hu : X.A.units + 128 < cLine) : CallR X (.builtin "sorted") (fun xs H Q => ∃ (d : Addr) (kvs : List (List Key × V)) (ks : List (Int × Int)), xs = [.ref d] ∧ H d = some (.dT kvs) ∧ kvs.map (·.1) = ks.map DK.kk ∧
    ∀ (bs : List Addr) (p : Addr), IsKeys H kvs bs → H p = none → Q (.ref p) (upd H p (.lst (sortV (bs.map V.ref) ks)))) := by
  intro pins s σ H xs us Q I r q
  obtain ⟨d, kvs, ks', ex, hd, hks, q⟩ := q
  subst ex
  obtain ⟨u, eu, rx⟩ := vals1 r
  subst eu
  cases rx
  obtain ⟨z, hs, ks, pr, o, es, ep, ho, hx, hdt, he, hn⟩ := (show ObjOk X.prog X.w H s.heap d (.dT kvs) from I.hok d _ hd)
  have l1 : es.size = ks.length := size_of_entries he
  have l2 : kvs.length = ks.length := Paired.length pr
  refine Calls.call_function_entry PyProof.Rows.kind_sorted PyProof.Rows.plain_sorted PyProof.Rows.entry_sorted (PyProof.Rows.args_sorted1 _) ?_
  unfold Builtin.«sorted»
  refine wpAny_bind (m := checkCount "sorted" 1 1 _) (wpAny_pure ?_)
  refine wpAny_bind (PySem.W.kdu_collect (A := X.A.in1) (kdl_raw hs hx hdt) (I.ok.hd hcalm) ho (by omega) fun h' tk acc kp it => ?_)
  have ea : acc.toList = ks.map fun x => Value.ref x.2.1 := by
    have hl : acc.toList.length = ks.length := by rw [Array.length_toList, it.1]; exact l1
    apply List.ext_getElem?
    intro j
    rw [List.getElem?_map]
    cases hj : acc.toList[j]? with
    | none =>
      have h1 := List.getElem?_eq_none_iff.mp hj
      rw [List.getElem?_eq_none (by omega)]
      all_goals rfl
    | some v =>
      obtain ⟨en, hen, hv⟩ := it.2 j v (by rw [← Array.getElem?_toList]; exact hj)
      have qe := entry_at he j
      rw [hen] at qe
      cases hb : ks[j]? with
      | none =>
        rw [hb] at qe
        exact nomatch (show some en = none from qe)
      | some b =>
        rw [hb] at qe
        have e2 : en = entryOfKey (tupleKind (mixKind X.prog X.w)) b := Option.some.inj qe
        rw [hv, e2]
        all_goals rfl
  have eb : acc.toList = (ks.map fun (x : List Key × Addr × Value) => x.2.1).map Value.ref := by rw [ea, List.map_map]; all_goals rfl
  have rv : Vals ((ks.map fun (x : List Key × Addr × Value) => x.2.1).map V.ref) acc.toList := by rw [eb]; exact vals_refs _
  have hik : IsKeys H kvs (ks.map fun (x : List Key × Addr × Value) => x.2.1) := isKeys_of pr
  have hrl := keys_rl hik hks
  have hlen : ((ks.map fun (x : List Key × Addr × Value) => x.2.1).map V.ref).length = ks'.length := hrl.len
  have hal : acc.toList.length = ks.length := by rw [ea, List.length_map]
  have I1 : Inv X pins σ H { s with heap := h', toks := tk } := I.kept kp
  have hE := each_pairs hrl rv
  have hR : EachIs (fun u (p : V × (Int × Int)) => ∃ as, PySem.Reads h' u (Datum.toD p.2) as) acc.toList (((ks.map fun (x : List Key × Addr × Value) => x.2.1).map V.ref).zip ks') := each_imp (fun u p hp => hp.2.holds I1 hp.1) hE
  have hoL : (h'.push (seqObj "list" acc.toList.toArray 0)).get? h'.objs.size = some (seqObj "list" acc.toList.toArray 0) := Heap.get?_push_size _ rfl
  have hz : acc.toList.length ≤ sizeLine := by rw [hal]; omega
  refine wpAny_bind (wpAny_newList ?_ hz)
  show wpAny _ _ _ _ _ { s with heap := h'.push (seqObj "list" acc.toList.toArray 0), toks := tk }
  have er' : EachIs (fun v (p : V × (Int × Int)) => ∃ as, PySem.Reads (PySem.W.sortingHeap (h'.push (seqObj "list" acc.toList.toArray 0)) h'.objs.size acc.toList) v (Datum.toD p.2) as) acc.toList (((ks.map fun (x : List Key × Addr × Value) => x.2.1).map V.ref).zip ks') :=
    hR.mono fun _ _ ⟨as, r⟩ => ⟨as, PyProof.Rows.Reads.keeps (fun b o e => PySem.W.sortingHeap_old (Nat.ne_of_lt (Heap.lt_size e)) (Heap.get?_push_of_some _ e)) r⟩
  have hal2 : PySem.W.AllAlike ((((ks.map fun (x : List Key × Addr × Value) => x.2.1).map V.ref).zip ks').map fun p => Datum.toD p.2) := PySem.W.AllAlike.of fun p q => DatumOrd.alike p.2 q.2
  refine wpAny_bind (wpAny_holding (wpAny_call_entry PyProof.Rows.slot_list_sort ⟨_, hoL, rfl⟩ PyProof.Rows.entry_list_sort
    (PySem.W.list_sort_vals (κ := PySem.W.dataKind (PySem.W.sortingHeap (h'.push (seqObj "list" acc.toList.toArray 0)) h'.objs.size acc.toList) ((((ks.map fun (x : List Key × Addr × Value) => x.2.1).map V.ref).zip ks').map fun p => Datum.toD p.2)) (s := { s with heap := h'.push (seqObj "list" acc.toList.toArray 0), toks := tk }) hoL
      (PySem.W.SortsAt.data (s := { s with heap := PySem.W.sortingHeap (h'.push (seqObj "list" acc.toList.toArray 0)) h'.objs.size acc.toList, toks := tk }) (PySem.W.each_map (R := fun v d => ∃ as, PySem.Reads (PySem.W.sortingHeap (h'.push (seqObj "list" acc.toList.toArray 0)) h'.objs.size acc.toList) v d as) (fun (p : V × (Int × Int)) => Datum.toD p.2) er') hal2 ?_ ?_) hz ⟨_, rfl, ?_⟩)
    (PyProof.Rows.args_list_sort _)))
  · exact PySem.W.Sortable.tuples fun p => ⟨_, _, rfl⟩
  · intro dd hdd
    obtain ⟨p, _, rfl⟩ := List.mem_map.mp hdd
    have hdp : Datum.depth (Int × Int) ≤ 100 := by decide
    have := Datum.depth_le p.2
    have hA : X.A.in1.in1.units ≤ X.A.units + 2 := by simp [Around.in1]
    omega
  · have he2 := PySem.W.sortVals_data (R := fun (u : Value) (p : V × (Int × Int)) => RelV p.1 u ∧ R H p.1 p.2) (enc := fun p => Datum.toD p.2) false hE er' hal2
    rw [dataLe_T (fun p : V × (Int × Int) => p.2)] at he2
    obtain ⟨q1, q2⟩ := pairs_vals he2
    obtain ⟨e', he'⟩ := PyProof.Rows.sortedHeap_at (vs := acc.toList) (out := (PySem.W.sortVals (PySem.W.dataKind (PySem.W.sortingHeap (h'.push (seqObj "list" acc.toList.toArray 0)) h'.objs.size acc.toList) ((((ks.map fun (x : List Key × Addr × Value) => x.2.1).map V.ref).zip ks').map fun p => Datum.toD p.2)) false acc.toList acc.toList).toArray) hoL
    refine wpAny_pure ⟨_, rfl, .ref h'.objs.size, upd H h'.objs.size (.lst (sortV ((ks.map fun (x : List Key × Addr × Value) => x.2.1).map V.ref) ks')), I1.laid (t' := tk) (fun b u e => ?_) (Nat.le_refl _)
      (show ObjOk X.prog X.w _ _ _ (.lst _) from ⟨?_, _, e', q1, he'⟩), rfl, q _ _ hik (I1.hok.fresh (Nat.le_refl _))⟩
    · have hb : b < h'.objs.size := Heap.lt_size e
      rw [PyProof.Rows.sortedHeap_old (Nat.ne_of_lt hb) (by rw [size_push']; exact Nat.lt_succ_of_lt hb)]
      exact Heap.get?_push_of_some _ e
    · unfold sortV
      rw [List.length_map, List.length_mergeSort, List.length_zip, hlen, Nat.min_self, ← hlen, List.length_map, List.length_map]
      omega
end
end PG

set_option Elab.async false
set_option linter.all false
set_option maxRecDepth 100000
set_option maxHeartbeats 4000000
namespace PG
open PySem PySem.Spec PyProof.Rows L2
open PySem.W (T3 T4 Datum DatumOrd Holds HoldAll EachIs)

/-! ### a list of two things of two kinds -/
structure HL2 (a b : Type) where
  a : a
  b : b
  deriving DecidableEq
theorem HL2.same {a b : Type} : ∀ {p q : HL2 a b}, p.a = q.a → p.b = q.b → p = q
  | ⟨_, _⟩, ⟨_, _⟩, rfl, rfl => rfl
section
variable {α β : Type} [DecidableEq α] [Datum α] [DecidableEq β] [Datum β]
instance : Datum (HL2 α β) where
  toD p := .list [Datum.toD p.a, Datum.toD p.b]
  plain p := by simp only [PyData.plain, PyData.plainAll, Datum.plain, Bool.and_self]
  eqv p q := by
    simp only [PyData.eqv, PyData.eqvAll]
    rw [Datum.eqv, Datum.eqv, Bool.and_true, ← Bool.decide_and]
    exact decide_eq_decide.mpr ⟨fun e => HL2.same e.1 e.2, fun e => by rw [e]; exact ⟨rfl, rfl⟩⟩
  depth := max (Datum.depth α) (Datum.depth β) + 1
  depth_le p := by
    simp only [PyData.depth, PyData.depthAll]
    have h0 := Datum.depth_le p.a
    have h1 := Datum.depth_le p.b
    omega
end
instance {a b : Type} [Py a] [Py b] : Py (HL2 a b) := ⟨fun p => .list [Py.toD p.a, Py.toD p.b]⟩
section
variable {a b : Type} [Py a] [DecidableEq a] [Datum a] [IsD a] [Py b] [DecidableEq b] [Datum b] [IsD b]
instance : IsD (HL2 a b) := ⟨fun p => by show PyData.list [_, _] = PyData.list [_, _]; rw [IsD.eq, IsD.eq]⟩
end
theorem R.hl2 {a b : Type} [Py a] [Py b] {H : Hp} {p : Addr} {x : HL2 a b} {v1 v2 : V} (ha : H p = some (.lst [v1, v2])) (h1 : R H v1 x.a) (h2 : R H v2 x.b) : R H (.ref p) x := Rep.lst ha (.cons h1 (.cons h2 .nil))
/-! ### data without lists within -/
class NoL (a : Type) [Py a] : Prop where
  mv : ∀ (F F' : Hp), (∀ b xs, F b = some (.tup xs) → F' b = some (.tup xs)) → ∀ (v : V) (x : a), R F v x → R F' v x
instance : NoL Int := ⟨fun _ _ _ _ _ h => by rw [R.int_ h]; exact R.int⟩
instance : NoL Bool := ⟨fun _ _ _ _ _ h => by rw [R.bl_ h]; exact R.bl⟩
instance : NoL Str := ⟨fun _ _ _ _ _ h => by rw [R.str_ h]; exact R.str⟩
instance {a b : Type} [Py a] [Py b] [NoL a] [NoL b] : NoL (a × b) := ⟨fun _ _ t _ _ h => by
  obtain ⟨p, v1, v2, rfl, hp, h1, h2⟩ := R.t2_ h
  exact R.t2 (t _ _ hp) (NoL.mv _ _ t _ _ h1) (NoL.mv _ _ t _ _ h2)⟩
instance {a b c : Type} [Py a] [Py b] [Py c] [NoL a] [NoL b] [NoL c] : NoL (T3 a b c) := ⟨fun _ _ t _ _ h => by
  obtain ⟨p, v1, v2, v3, rfl, hp, h1, h2, h3⟩ := R.t3_ h
  exact R.t3 (t _ _ hp) (NoL.mv _ _ t _ _ h1) (NoL.mv _ _ t _ _ h2) (NoL.mv _ _ t _ _ h3)⟩
theorem RL.mv {a : Type} [Py a] [NoL a] {F F' : Hp} (t : ∀ b xs, F b = some (.tup xs) → F' b = some (.tup xs)) : ∀ {vs : List V} {xs : List a}, RL F vs xs → RL F' vs xs
  | _, [], h => by rw [RL.nil_ h]; exact RL.nil
  | _, x :: xs, h => by
    obtain ⟨w, ws, rfl, h1, h2⟩ := RL.cons_ h
    exact RL.cons (NoL.mv _ _ t _ _ h1) (RL.mv t h2)
/-! ### cells lent to a call -/
open Classical in
noncomputable def lendF (as : List Addr) (F H : Hp) : Hp := fun b => if b ∈ as then H b else F b
open Classical in
noncomputable def backF (as : List Addr) (F : Hp) : Hp := fun b => if b ∈ as then none else F b
section
variable {Z : Ent} {F F' H H' : Hp} {cs : List (Addr × HO)} {p a q : Addr} {o o' : HO} {as : List Addr}
theorem inA_nil : ∀ b ∈ ([] : List Addr), ∃ o, (b, o) ∈ cs := fun _ h => nomatch h
theorem inA_cons (i : Nat) (e : cs[i]? = some (a, o)) (h : ∀ b ∈ as, ∃ o, (b, o) ∈ cs) : ∀ b ∈ a :: as, ∃ o, (b, o) ∈ cs := fun b hb => by
  rcases List.mem_cons.mp hb with rfl | hb
  · exact ⟨o, List.mem_of_getElem? e⟩
  · exact h b hb
theorem lendF_at (h : a ∈ as) : lendF as F H a = H a := if_pos h
theorem Ow.lendS (O : Ow Z F cs H) (hin : ∀ b ∈ as, ∃ o, (b, o) ∈ cs) : Same F (lendF as F H) := fun b u e => by
  by_cases hb : b ∈ as
  · obtain ⟨o, hc⟩ := hin b hb
    have := O.cf _ hc
    have e' : F b = none := this
    rw [e'] at e; cases e
  · show (if b ∈ as then H b else F b) = _
    rw [if_neg hb]; exact e
theorem Ow.lendP (O : Ow Z F cs H) (hin : ∀ b ∈ as, ∃ o, (b, o) ∈ cs) : Pre (lendF as F H) [] H := by
  refine ⟨fun b u e => ?_, (fun _ h => nomatch h), (fun _ h => nomatch h), List.nodup_nil, fun _ h => nomatch h⟩
  have e : (if b ∈ as then H b else F b) = some u := e
  by_cases hb : b ∈ as
  · rw [if_pos hb] at e; exact e
  · rw [if_neg hb] at e; exact O.s b u e
theorem Ow.unlend (O : Ow Z F cs H) (hin : ∀ b ∈ as, ∃ o, (b, o) ∈ cs) (g : Gr [] (lendF as F H) H F' H') :
    Ow Z (backF as F') cs H' ∧ Same F (backF as F') ∧ (∀ b xs, F' b = some (.tup xs) → backF as F' b = some (.tup xs)) ∧ ∀ b, F' b = none → backF as F' b = none := by
  have inF : ∀ b, b ∉ as → ∀ u, F b = some u → F' b = some u := fun b hb u e => g.f b u (by
    show (if b ∈ as then H b else F b) = _
    rw [if_neg hb]; exact e)
  have nF : ∀ b ∈ as, F b = none := fun b hb => by obtain ⟨o, hc⟩ := hin b hb; exact O.cf _ hc
  have sF : Same F (backF as F') := fun b u e => by
    show (if b ∈ as then none else F' b) = _
    by_cases hb : b ∈ as
    · rw [nF b hb] at e; cases e
    · rw [if_neg hb]; exact inF b hb u e
  refine ⟨⟨⟨O.g.f.trans sF, fun b u e => ?_, fun b u hb e => g.k b u (fun h => nomatch h) (O.g.k b u hb e), fun b e => g.t b (O.g.t b e), fun b e => ?_, fun b xs e => ?_⟩, fun c hc => ?_, fun c hc => g.k _ _ (fun h => nomatch h) (O.ch c hc), O.nd, O.ca, O.nt⟩, sF, fun b xs e => ?_, fun b e => ?_⟩
  · have e : (if b ∈ as then none else F' b) = some u := e
    by_cases hb : b ∈ as
    · rw [if_pos hb] at e; cases e
    · rw [if_neg hb] at e; exact g.s b u e
  · show (if b ∈ as then none else F' b) = _ ∨ _
    by_cases hb : b ∈ as
    · rw [if_pos hb]
      rcases O.g.n b e with h0 | h0
      · rw [nF b hb] at h0; exact .inl h0
      · exact .inr h0
    · rw [if_neg hb]
      rcases O.g.n b e with h0 | h0
      · rcases g.n b (O.g.t b e) with h1 | ⟨xs, hx⟩
        · refine .inl (h1.trans ?_)
          show (if b ∈ as then H b else F b) = _
          rw [if_neg hb]; exact h0
        · rcases O.g.u b xs hx with z | z
          · exact absurd z e
          · exact .inr ⟨xs, z⟩
      · exact .inr h0
  · rcases g.u b xs e with z | z
    · refine .inl ?_
      cases q : Z.H b with
      | none => rfl
      | some u => exact absurd z (O.g.t b (by rw [q]; simp))
    · exact O.g.u b xs z
  · show (if c.1 ∈ as then none else F' c.1) = none
    by_cases hb : c.1 ∈ as
    · rw [if_pos hb]
    · rw [if_neg hb]
      have hl : lendF as F H c.1 = none := by
        show (if c.1 ∈ as then H c.1 else F c.1) = _
        rw [if_neg hb]; exact O.cf c hc
      exact g.none (O.ch c hc) (O.nt c hc) hl
  · show (if b ∈ as then none else F' b) = _
    by_cases hb : b ∈ as
    · obtain ⟨o, hc⟩ := hin b hb
      have h1 : lendF as F H b = some o := by
        show (if b ∈ as then H b else F b) = _
        rw [if_pos hb]; exact O.ch _ hc
      have h2 := g.f b o h1
      rw [e] at h2
      have h3 := O.nt _ hc
      have h3 : noTup o = true := h3
      rw [← Option.some.inj h2] at h3
      cases h3
    · rw [if_neg hb]; exact e
  · show (if b ∈ as then none else F' b) = _
    by_cases hb : b ∈ as
    · rw [if_pos hb]
    · rw [if_neg hb]; exact e
theorem Ow.fresh (O : Ow Z F cs H) (h : H p = none) : p ∉ cs.map (·.1) := fun hm => by
  obtain ⟨c, hc, e⟩ := List.mem_map.mp hm
  have z := O.ch c hc
  rw [e, h] at z
  cases z
theorem Ow.add' (O : Ow Z F cs H) (hm : p ∉ cs.map (·.1)) (hz : Z.H p = none) (hf : F p = none) (h : H p = some o) (ht : noTup o = true := by rfl) : Ow Z F ((p, o) :: cs) H where
  g := O.g
  cf := fun c hc => by
    rcases List.mem_cons.mp hc with rfl | hc
    · exact hf
    · exact O.cf c hc
  ch := fun c hc => by
    rcases List.mem_cons.mp hc with rfl | hc
    · exact h
    · exact O.ch c hc
  nd := by
    rw [List.map_cons, List.nodup_cons]
    exact ⟨hm, O.nd⟩
  ca := fun c hc => by
    rcases List.mem_cons.mp hc with rfl | hc
    · exact .inr hz
    · exact O.ca c hc
  nt := fun c hc => by
    rcases List.mem_cons.mp hc with rfl | hc
    · exact ht
    · exact O.nt c hc
theorem Ow.ne (O : Ow Z F cs H) (i j : Nat) (hij : i ≠ j) (ei : cs[i]? = some (a, o)) (ej : cs[j]? = some (q, o')) : a ≠ q := fun e => by
  subst e
  have h1 : (cs.map (·.1))[i]? = some a := by rw [List.getElem?_map, ei]; rfl
  have h2 : (cs.map (·.1))[j]? = some a := by rw [List.getElem?_map, ej]; rfl
  exact hij (nd_ix O.nd h1 h2)
end
theorem nmem2 {p q : Addr} {l : List Addr} (h : p ≠ q) (h2 : p ∉ l) : p ∉ q :: l := fun m => by
  rcases List.mem_cons.mp m with e | m
  · exact h e
  · exact h2 m
/-! ### while -/
inductive Ws (s r : Type) where
  | go (x : s)
  | stop (x : s)
  | rt (z : r)
def whL {s r : Type} (b : s → M (Ws s r)) : Nat → s → M (Fl s r)
  | 0, _ => bad
  | n + 1, x => b x >>= fun
    | .go x' => whL b n x'
    | .stop x' => .ok (.nx x')
    | .rt z => .ok (.rt z)
theorem whL_L {s r a : Type} {Q : a → Prop} {E : String → Prop} {b : s → M (Ws s r)} {n : Nat} {x : s} {k : Fl s r → M a} (h : wp (whL b n x >>= k) Q E) :
    ∃ (L : Nat → s → Prop) (X : s → Prop), L n x ∧ (∀ m x, L m x → wp (b x) (fun w => match w with
      | .go x' => ∃ m', m' < m ∧ L m' x'
      | .stop x' => X x'
      | .rt z => wp (k (.rt z)) Q E) E) ∧ ∀ x, X x → wp (k (.nx x)) Q E := by
  refine ⟨fun n x => wp (whL b n x >>= k) Q E, fun x => wp (k (.nx x)) Q E, h, fun m x hx => ?_, fun x hx => hx⟩
  cases m with
  | zero => exact hx.elim
  | succ m =>
    have hx : wp ((b x >>= fun
      | .go x' => whL b m x'
      | .stop x' => .ok (.nx x')
      | .rt z => .ok (.rt z)) >>= k) Q E := hx
    rw [wp_bind, wp_bind] at hx
    cases e : b x with
    | error e2 => rw [e] at hx; cases e2 <;> exact hx
    | ok w =>
      rw [e] at hx
      cases w with
      | go x' => exact ⟨m, Nat.lt_succ_self m, wp_bind.mpr hx⟩
      | stop x' => exact hx
      | rt z => exact hx
theorem while_P {c : TT} {tb : TS} {D : Ends} {σ : L2.St} {H : Hp} (W : Nat → L2.St → Hp → Prop) (X : L2.St → Hp → Prop) (n : Nat) (h0 : W n σ H) (exit : ∀ σ H, X σ H → D.nx σ H)
    (turn : (∀ σ H, X σ H → D.nx σ H) → ∀ m σ H, W m σ H → c σ H fun b H1 => if b = true then ∃ N : L2.St → Hp → Prop, (∀ σ' H', N σ' H' → ∃ m', m' < m ∧ W m' σ' H') ∧ tb { D with nx := N, ct := N, bk := D.nx } σ H1 else D.nx σ H1) : tWhile c tb D σ H :=
  ⟨W, ⟨n, h0⟩, turn exit⟩
/-! ### a < b < c < d -/
section
variable {X : Cx} {a b c d : Expr} {ta tb tc td : TE} {pos : Pos}
def tChain3 (r r' r'' : R2) (ta tb tc td : TE) : TE := fun σ H Q => ta σ H fun x H1 => tb σ H1 fun y H2 => r x y H2 fun z H3 => ∃ k, z = .bl k ∧
  (if k = true then tc σ H3 fun w' H4 => r' y w' H4 fun z' H5 => ∃ k', z' = .bl k' ∧ (if k' = true then td σ H5 fun u' H6 => r'' w' u' H6 Q else Q (.bl false) H5) else Q (.bl false) H3)
theorem pt_chain3 {op op' op'' : CmpOp} {r r' r'' : R2} (ho : OpR X (compareOp op) r) (ho' : OpR X (compareOp op') r') (ho'' : OpR X (compareOp op'') r'') (ha : PE X a ta) (hb : PE X b tb) (hc : PE X c tc) (hd : PE X d td)
    (hm : lastMarks [op, op', op''] [b, c, d] = false := by with_unfolding_all rfl) : PT X (.Compare a [op, op', op''] [b, c, d] pos) (tTest (tChain3 r r' r'' ta tb tc td)) := by
  refine ⟨fun pins s σ H Q I h => ?_⟩
  refine isTrue_chain (thn (ha.run pins s σ H _ I h) fun v s1 ⟨x, H1, I1, r1, q1⟩ => test_link (thn (hb.run pins s1 σ H1 _ I1 q1) fun u s2 ⟨y, H2, I2, r2, q2⟩ =>
    thn (ho pins s2 σ H2 x y v u _ I2 r1 r2 q2) fun d1 s3 ⟨z, H3, I3, r3, k, e, q3⟩ => ?_)) hm
  subst e
  cases r3
  refine wpAny_truthy_bool ?_
  cases k with
  | false =>
    obtain ⟨k', e', q'⟩ := q3
    cases e'
    exact ite_ff ⟨H3, I3, q'⟩
  | true =>
    refine ite_tt (test_link (thn (hc.run pins s3 σ H3 _ I3 q3) fun w' s4 ⟨z', H4, I4, r4, q4⟩ => thn (ho' pins s4 σ H4 y z' u w' _ I4 r2 r4 q4) fun d2 s5 ⟨z2, H5, I5, r5, k2, e2, q5⟩ => ?_))
    subst e2
    cases r5
    refine wpAny_truthy_bool ?_
    cases k2 with
    | false =>
      obtain ⟨k', e', q'⟩ := q5
      cases e'
      exact ite_ff ⟨H5, I5, q'⟩
    | true =>
      refine ite_tt (test_last (thn (hd.run pins s5 σ H5 _ I5 q5) fun u' s6 ⟨z3, H6, I6, r6, q6⟩ => thn (ho'' pins s6 σ H6 z' z3 w' u' _ I6 r4 r6 q6) fun d3 s7 ⟨z4, H7, I7, r7, k3, e3, q7⟩ => ?_))
      subst e3
      cases r7
      exact wpAny_truthy_bool ⟨H7, I7, q7⟩
end
/-! ### list.index of whole numbers -/
def ixI (xs : List Int) (y : Int) : M Int := if y ∈ xs then .ok ((xs.findIdx (· == y) : Nat) : Int) else bad
theorem wp_ixI {a : Type} {Q : a → Prop} {E : String → Prop} {xs : List Int} {y : Int} {k : Int → M a} (h : wp (ixI xs y >>= k) Q E) : ∃ j, xs.findIdx (· == y) = j ∧ xs[j]? = some y ∧ (∀ (m : Nat) z, m < j → xs[m]? = some z → z ≠ y) ∧ wp (k (j : Int)) Q E := by
  unfold ixI at h
  by_cases hm : y ∈ xs
  · rw [if_pos hm] at h
    have hlt : xs.findIdx (· == y) < xs.length := List.findIdx_lt_length_of_exists ⟨y, hm, by simp⟩
    refine ⟨_, rfl, ?_, fun m z hmj hz e => ?_, h⟩
    · rw [List.getElem?_eq_getElem hlt]
      have := List.findIdx_getElem (w := hlt)
      rw [eq_of_beq this]
    · have := List.not_of_lt_findIdx hmj
      obtain ⟨hl, hz⟩ := List.getElem?_eq_some_iff.mp hz
      rw [hz, e] at this
      simp at this
  · rw [if_neg hm] at h; exact h.elim
theorem all_flat_int : ∀ xs : List Int, (xs.map V.int).all flatV = true
  | [] => rfl
  | x :: xs => by rw [List.map_cons, List.all_cons, all_flat_int xs]; rfl
theorem int_noeq {xs : List Int} {y : Int} {j : Nat} (h : ∀ (m : Nat) z, m < j → xs[m]? = some z → z ≠ y) : ∀ (m : Nat) (z' : V), m < j → (xs.map V.int)[m]? = some z' → eqV z' (.int y) = false := fun m z' hm hz => by
  rw [List.getElem?_map] at hz
  cases e : xs[m]? with
  | none => rw [e] at hz; cases hz
  | some z =>
    rw [e] at hz
    have hz : V.int z = z' := Option.some.inj hz
    subst hz
    have := h m z hm e
    show (z == y) = false
    simpa using this
theorem int_at {xs : List Int} {y : Int} {j : Nat} (h : xs[j]? = some y) : (xs.map V.int)[j]? = some (.int y) := by rw [List.getElem?_map, h]; rfl
theorem int_eq {y : Int} : eqV (.int y) (.int y) = true := by show (y == y) = true; simp
/-! ### dict(list of pairs), the keys whole numbers -/
section
variable {β : Type} [Py β] {F H : Hp}
def mergeD (xs : List (Int × β)) : List (Int × β) := xs.foldl (fun acc p => dPut acc p.1 p.2) []
theorem merge_rd {kvs : List (Key × V)} {xs : List (Int × β)} (hs : RD F kvs xs) : ∀ {acc : List (Key × V)} {ac : List (Int × β)}, RD F acc ac → RD F (mergeK acc kvs) (xs.foldl (fun acc p => dPut acc p.1 p.2) ac) := by
  induction hs with
  | nil => intro acc ac h; exact h
  | @cons k v y kvs xs hv _ ih =>
    intro acc ac h
    exact ih (h.put k hv)
theorem pairs_of_rl {K : PySem.W.Frag} (s : Same F H) : ∀ {vs : List V} {xs : List (Int × β)}, RL F vs xs → ∃ (ps : List Addr) (kvs : List (Key × V)), vs = ps.map V.ref ∧ Paired (fun p kv => SqT K H p [kV kv.1, kv.2]) ps kvs ∧ RD F kvs xs
  | _, [], h => ⟨[], [], RL.nil_ h, .nil, .nil⟩
  | _, x :: xs, h => by
    obtain ⟨w, ws, rfl, h1, h2⟩ := RL.cons_ h
    obtain ⟨ps, kvs, e, hp, hr⟩ := pairs_of_rl (K := K) s h2
    obtain ⟨p, v1, v2, rfl, hp1, h3, h4⟩ := R.t2_ h1
    rw [R.int_ h3] at hp1
    exact ⟨p :: ps, (.inl x.1, v2) :: kvs, by rw [e]; rfl, .cons (SqT.of (s _ _ hp1)) hp, .cons (k := x.1) h4 hr⟩
end
/-! ### the same rules, the fragment told outright (within a comprehension) -/
section
variable {X : Cx} {K : PySem.W.Frag}
theorem ixTupK (h : X.K = K) : IxR X (rIxT K) := by rw [← h]; exact ix_tup
theorem ixListK (h : X.K = K) : IxR X (rIxL K) := by rw [← h]; exact ix_list
theorem listOfK (h : X.K = K) : CallR X (.type "list") (fun xs H Q => ∃ p ys, xs = [.ref p] ∧ (SqL K H p ys ∨ SqT K H p ys) ∧ ∀ l, H l = none → Q (.ref l) (upd H l (.lst ys))) := by rw [← h]; exact call_list_of
theorem isiK (h : X.K = K) : CallR X (.builtin "isinstance") (rIsi K) := by rw [← h]; exact call_isi
theorem slListK (h : X.K = K) : SlR X (rSlL K) := by rw [← h]; exact sl_list
theorem indexK (h : X.K = K) : MtR X "list.index" (rIndex K) := by rw [← h]; exact mt_index
end
/-! ### enumerate in a comprehension -/
def enumL {b : Type} (xs : List b) : List (Int × b) := xs.zipIdx.map fun p => ((p.2 : Int), p.1)
theorem enumL_get {b : Type} {xs : List b} {i : Nat} {x : b} (h : xs[i]? = some x) : (enumL xs).drop i = ((i : Int), x) :: (enumL xs).drop (i + 1) := by
  apply drop_at
  unfold enumL
  rw [List.getElem?_map, List.getElem?_zipIdx, h]
  simp
theorem enumL_len {b : Type} {xs : List b} : (enumL xs).length = xs.length := by unfold enumL; simp
theorem enumL_end {b : Type} {xs : List b} {vs : List V} (h : vs.length = xs.length) : (enumL xs).drop vs.length = [] := by
  rw [h, ← enumL_len, List.drop_length]
theorem comp_lenE {b : Type} {w vs : List V} {xs : List b} {i : Nat} (la : w.length ≤ i) (hi : i < vs.length) (hl : vs.length = xs.length) (c : (enumL xs).length < 16777216) : w.length < sizeLine := by
  rw [enumL_len] at c
  exact lt_line (by omega)
theorem zip_at {a b : Type} {xs : List a} {ys : List b} {i : Nat} {x : a} {y : b} (h : xs[i]? = some x) (h2 : ys[i]? = some y) : (xs.zip ys).drop i = (x, y) :: (xs.zip ys).drop (i + 1) := by
  apply drop_at
  rw [List.getElem?_zip_eq_some]
  exact ⟨h, h2⟩
theorem zip_end {a b : Type} {xs : List a} {ys : List b} {vs ws : List V} (h : vs.length = xs.length) (h2 : ws.length = ys.length) : (xs.zip ys).drop (min vs.length ws.length) = [] := by
  rw [h, h2, ← List.length_zip, List.drop_length]
theorem comp_lenZ {a b : Type} {w vs ws : List V} {xs : List a} {ys : List b} {i : Nat} (la : w.length ≤ i) (hi : i < min vs.length ws.length) (h : vs.length = xs.length) (h2 : ws.length = ys.length) (c : (xs.zip ys).length < 16777216) : w.length < sizeLine := by
  rw [List.length_zip, ← h, ← h2] at c
  exact lt_line (by omega)
section
variable {X : Cx} {K : PySem.W.Frag}
theorem cr_sumK (hc : X.calm = true) (h : X.K = K) : CallR X (.builtin "sum") (rSum K) := by rw [← h]; exact cr_sum hc
end
end PG

set_option Elab.async false
set_option linter.all false
set_option maxRecDepth 100000
set_option maxHeartbeats 4000000
namespace PG
open PySem PySem.Spec PyProof.Rows L2
open PySem.W (T3 T4 Datum DatumOrd Holds HoldAll EachIs)
/-! ### sums: ("number", n), (word, n), (word,), (word, a, b) -/
inductive Sm where
  | num (w : Str) (n : Int)
  | nam (w : Str)
  | two (w : Str) (a b : Sm)
  deriving DecidableEq
def Sm.d : Sm → PyData
  | .num w n => .tuple [.str w, .int n]
  | .nam w => .tuple [.str w]
  | .two w a b => .tuple [.str w, a.d, b.d]
instance : Py Sm := ⟨Sm.d⟩
def Sm.word : Sm → Str
  | .num w _ => w
  | .nam w => w
  | .two w _ _ => w
def Sm.int? : Sm → Option Int
  | .num _ n => some n
  | _ => none
def Sm.two? : Sm → Option (Sm × Sm)
  | .two _ a b => some (a, b)
  | _ => none
section
variable {F : Hp} {v : V} {p : Addr} {x : Sm}
theorem R.sm_ (h : R F v x) : ∃ p ws, v = .ref p ∧ F p = some (.tup (V.str x.word :: ws)) := by
  cases x with
  | num w n =>
    obtain ⟨p, v1, v2, e, hp, h1, h2⟩ := R.t2_ (show R (a := Str × Int) F v (w, n) from h)
    rw [R.str_ h1] at hp
    exact ⟨p, [v2], e, hp⟩
  | nam w =>
    have h' : Rep F v (.tuple [.str w]) := h
    cases h' with
    | tup ha hs =>
      cases hs with
      | cons h1 hs =>
        cases hs
        cases h1
        exact ⟨_, _, rfl, ha⟩
  | two w a b =>
    obtain ⟨p, v1, v2, v3, e, hp, h1, h2, h3⟩ := R.t3_ (show R (a := T3 Str Sm Sm) F v ⟨w, a, b⟩ from h)
    rw [R.str_ h1] at hp
    exact ⟨p, [v2, v3], e, hp⟩
theorem R.sm_int {n : Int} (h : R F v x) (e : x.int? = some n) : ∃ p w, v = .ref p ∧ F p = some (.tup [V.str w, V.int n]) := by
  cases x with
  | num w m =>
    obtain ⟨p, v1, v2, e1, hp, h1, h2⟩ := R.t2_ (show R (a := Str × Int) F v (w, m) from h)
    rw [R.str_ h1, R.int_ h2] at hp
    have e : some m = some n := e
    cases e
    exact ⟨p, w, e1, hp⟩
  | nam w => cases e
  | two w a b => cases e
theorem R.sm_two {q : Sm × Sm} (h : R F v x) (e : x.two? = some q) : ∃ p w va vb, v = .ref p ∧ F p = some (.tup [V.str w, va, vb]) ∧ R F va q.1 ∧ R F vb q.2 := by
  cases x with
  | num w m => cases e
  | nam w => cases e
  | two w a b =>
    obtain ⟨p, v1, v2, v3, e1, hp, h1, h2, h3⟩ := R.t3_ (show R (a := T3 Str Sm Sm) F v ⟨w, a, b⟩ from h)
    rw [R.str_ h1] at hp
    have e : some (a, b) = some q := e
    cases e
    exact ⟨p, w, v2, v3, e1, hp, h2, h3⟩
theorem R.of_num {q : Str × Int} (h : R F v q) : R F v (Sm.num q.1 q.2) := h
theorem R.of_two {q : T3 Str Sm Sm} (h : R F v q) : R F v (Sm.two q.a q.b q.c) := h
theorem R.of_nam {w : Str} (h : F p = some (.tup [V.str w])) : R F (.ref p) (Sm.nam w) := Rep.tup h (.cons (.str w) .nil)
end
/-! ### a whole number or a list of such -/
inductive IL where
  | i (n : Int)
  | l (xs : List Int)
instance : Py IL := ⟨fun
  | .i n => Py.toD n
  | .l xs => Py.toD xs⟩
def IL.i? : IL → Option Int
  | .i n => some n
  | _ => none
def IL.l? : IL → Option (List Int)
  | .l xs => some xs
  | _ => none
section
variable {F : Hp} {v : V}
theorem R.il_i {x : IL} {n : Int} (h : R F v x) (e : x.i? = some n) : R F v n := by
  cases x with
  | i m => have e : some m = some n := e; cases e; exact h
  | l xs => cases e
theorem R.il_l {x : IL} {xs : List Int} (h : R F v x) (e : x.l? = some xs) : R F v xs := by
  cases x with
  | i m => cases e
  | l ys => have e : some ys = some xs := e; cases e; exact h
theorem R.of_i {n : Int} (h : R F v n) : R F v (IL.i n) := h
theorem R.of_l {xs : List Int} (h : R F v xs) : R F v (IL.l xs) := h
end
section
variable {β : Type} [Py β] {F : Hp}
def mergeDS (xs : List (Str × β)) : List (Str × β) := xs.foldl (fun acc p => dPut acc p.1 p.2) []
theorem merge_rdS {kvs : List (Key × V)} {xs : List (Str × β)} (hs : RD F kvs xs) : ∀ {acc : List (Key × V)} {ac : List (Str × β)}, RD F acc ac → RD F (mergeK acc kvs) (xs.foldl (fun acc p => dPut acc p.1 p.2) ac) := by
  induction hs with
  | nil => intro acc ac h; exact h
  | @cons k v y kvs xs hv _ ih =>
    intro acc ac h
    exact ih (h.put k hv)
end
section
variable {X : Cx} {K : PySem.W.Frag} {pos : Pos}
theorem slTupK (h : X.K = K) : SlR X (rSlT K) := by rw [← h]; exact sl_tup
theorem pgLstK (h : X.K = K) {es : List Expr} {k : Nat} {t : TGs} {n : Nat} (hc : X.calm = true) (hp : PGs X es t)
    (hn : (assignEach es X.env).length = n := by rfl) (hst : (assignEach es X.env).findIdx? (·.1) = none := by rfl) : PG X (.Tuple es k pos) (gLst K n t) := by rw [← h]; exact pg_lst hc hp hn hst
end
theorem RL.two {a : Type} [Py a] {F : Hp} {vs : List V} {xs : List a} (h : RL F vs xs) (e : xs.length = 2) : ∃ v1 v2 x1 x2, vs = [v1, v2] ∧ xs = [x1, x2] ∧ R F v1 x1 ∧ R F v2 x2 := by
  match xs, e with
  | [x1, x2], _ =>
    obtain ⟨w, ws, rfl, h1, h2⟩ := RL.cons_ h
    obtain ⟨w2, ws2, rfl, h3, h4⟩ := RL.cons_ h2
    rw [RL.nil_ h4]
    exact ⟨w, w2, x1, x2, rfl, rfl, h1, h3⟩
/-- a list of just two -/
def two2 {a : Type} (xs : List a) : M (a × a) := match xs with
  | [x, y] => .ok (x, y)
  | _ => bad
theorem wp_two2 {a b : Type} {Q : a → Prop} {E : String → Prop} {xs : List b} {k : b × b → M a} (h : wp (two2 xs >>= k) Q E) : ∃ x y, xs = [x, y] ∧ wp (k (x, y)) Q E := by
  match xs, h with
  | [x, y], h => exact ⟨x, y, rfl, h⟩
  | [], h => exact h.elim
  | [_], h => exact h.elim
  | _ :: _ :: _ :: _, h => exact h.elim
theorem sl3 (a b c : V) : ¬ (HT.sIx [a, b, c].length 0 (some (1 : Int)) = 0 ∧ HT.sIx [a, b, c].length [a, b, c].length none = [a, b, c].length) := fun h => absurd h.1 (by show ¬ (HT.sIx 3 0 (some (1 : Int)) = 0); decide)
theorem intB {X : Cx} : CallR X (.type "int") (fun xs H Q => ∃ k, xs = [.bl k] ∧ Q (.int (if k then 1 else 0)) H) := fun pins s σ H xs us Q I r h => call_int1 pins s σ H xs us Q I r (.inr h)
theorem atI0 {a : Type} (x : a) (xs : List a) : L2.atI (x :: xs) (0 : Int) = some x := by
  unfold L2.atI ixN
  rw [if_pos (by omega), if_pos (by rw [List.length_cons]; omega)]
  rfl
end PG

set_option Elab.async false
set_option linter.all false
set_option maxRecDepth 100000
set_option maxHeartbeats 4000000
namespace PG
open PySem PySem.Spec PyProof.Rows L2
open PySem.W (T3 T4 Datum DatumOrd Holds HoldAll EachIs)
/-! ### == of data of any depth, the depth asked outright -/
class DatumX (a : Type) [Py a] [DecidableEq a] : Prop where
  plain : ∀ x : a, (Py.toD x).plain = true
  eqv : ∀ x y : a, PyData.eqv (Py.toD x) (Py.toD y) = decide (x = y)
instance (priority := 50) {a : Type} [Py a] [DecidableEq a] [Datum a] [IsD a] : DatumX a := ⟨fun x => by rw [IsD.eq]; exact Datum.plain x, fun x y => by rw [IsD.eq, IsD.eq]; exact Datum.eqv x y⟩
theorem Sm.pl : ∀ x : Sm, x.d.plain = true
  | .num w n => by simp [Sm.d, PyData.plain, PyData.plainAll]
  | .nam w => by simp [Sm.d, PyData.plain, PyData.plainAll]
  | .two w a b => by simp [Sm.d, PyData.plain, PyData.plainAll, Sm.pl a, Sm.pl b]
theorem ev23 (w w' : Str) (n : PyData) (x y : PyData) : PyData.eqv (.tuple [.str w, n]) (.tuple [.str w', x, y]) = false := by simp [PyData.eqv, PyData.eqvAll]
theorem ev32 (w w' : Str) (n : PyData) (x y : PyData) : PyData.eqv (.tuple [.str w', x, y]) (.tuple [.str w, n]) = false := by simp [PyData.eqv, PyData.eqvAll]
theorem ev13 (w w' : Str) (x y : PyData) : PyData.eqv (.tuple [.str w]) (.tuple [.str w', x, y]) = false := by simp [PyData.eqv, PyData.eqvAll]
theorem ev31 (w w' : Str) (x y : PyData) : PyData.eqv (.tuple [.str w', x, y]) (.tuple [.str w]) = false := by simp [PyData.eqv, PyData.eqvAll]
theorem Sm.ev : ∀ x y : Sm, PyData.eqv x.d y.d = decide (x = y)
  | .num w n, .num w' n' => by
    simp only [Sm.d, PyData.eqv, PyData.eqvAll, Bool.and_true]
    rw [PySem.W.beq_decide, PySem.W.beq_decide, ← Bool.decide_and]
    exact decide_eq_decide.mpr (by rw [Sm.num.injEq])
  | .num w n, .nam w' => by simp [Sm.d, PyData.eqv, PyData.eqvAll]
  | .num w n, .two w' a b => (ev23 w w' (.int n) a.d b.d).trans (by simp)
  | .nam w, .num w' n => by simp [Sm.d, PyData.eqv, PyData.eqvAll]
  | .nam w, .nam w' => by
    simp only [Sm.d, PyData.eqv, PyData.eqvAll, Bool.and_true]
    rw [PySem.W.beq_decide]
    exact decide_eq_decide.mpr (by rw [Sm.nam.injEq])
  | .nam w, .two w' a b => (ev13 w w' a.d b.d).trans (by simp)
  | .two w a b, .num w' n => (ev32 w' w (.int n) a.d b.d).trans (by simp)
  | .two w a b, .nam w' => (ev31 w' w a.d b.d).trans (by simp)
  | .two w a b, .two w' a' b' => by
    simp only [Sm.d, PyData.eqv, PyData.eqvAll, Bool.and_true]
    rw [PySem.W.beq_decide, Sm.ev a a', Sm.ev b b', ← Bool.decide_and, ← Bool.decide_and]
    exact decide_eq_decide.mpr (by rw [Sm.two.injEq])
instance : DatumX Sm := ⟨Sm.pl, Sm.ev⟩
section
variable {a b c d : Type} [Py a] [DecidableEq a] [DatumX a] [Py b] [DecidableEq b] [DatumX b] [Py c] [DecidableEq c] [DatumX c] [Py d] [DecidableEq d] [DatumX d]
theorem plainX : ∀ xs : List a, PyData.plainAll (xs.map Py.toD) = true
  | [] => rfl
  | x :: xs => by
    rw [List.map_cons, PyData.plainAll, DatumX.plain x, plainX xs]
    rfl
theorem eqvX : ∀ xs ys : List a, PyData.eqvAll (xs.map Py.toD) (ys.map Py.toD) = decide (xs = ys)
  | [], [] => by simp only [List.map_nil, PyData.eqvAll, decide_true]
  | [], _ :: _ => by simp [PyData.eqvAll]
  | _ :: _, [] => by simp [PyData.eqvAll]
  | x :: xs, y :: ys => by
    rw [List.map_cons, List.map_cons, PyData.eqvAll, DatumX.eqv x y, eqvX xs ys, ← Bool.decide_and]
    exact decide_eq_decide.mpr (by rw [List.cons.injEq])
instance : DatumX (List a) := ⟨fun xs => by show PyData.plain (.list (xs.map Py.toD)) = true; simp only [PyData.plain]; exact plainX xs, fun xs ys => by show PyData.eqv (.list (xs.map Py.toD)) (.list (ys.map Py.toD)) = _; simp only [PyData.eqv]; exact eqvX xs ys⟩
theorem T4.sm {p q : T4 a b c d} : p = q ↔ p.a = q.a ∧ p.b = q.b ∧ p.c = q.c ∧ p.d = q.d := by
  cases p; cases q
  simp
instance : DatumX (T4 a b c d) := ⟨fun p => by show PyData.plain (.tuple [_, _, _, _]) = true; simp only [PyData.plain, PyData.plainAll, DatumX.plain, Bool.and_self], fun p q => by
  show PyData.eqv (.tuple [_, _, _, _]) (.tuple [_, _, _, _]) = _
  simp only [PyData.eqv, PyData.eqvAll]
  rw [DatumX.eqv, DatumX.eqv, DatumX.eqv, DatumX.eqv, Bool.and_true, ← Bool.decide_and, ← Bool.decide_and, ← Bool.decide_and]
  exact decide_eq_decide.mpr T4.sm.symm⟩
end
def dep {a : Type} [Py a] (x : a) : Nat := (Py.toD x).depth
section
variable {X : Cx} (a : Type) [Py a] [DecidableEq a] [DatumX a]
def rEqX : R2 := fun x y H Q => ∃ p q : a, R H x p ∧ R H y q ∧ min (dep p) (dep q) ≤ 60 ∧ Q (.bl (decide (p = q))) H
def rNeX : R2 := fun x y H Q => ∃ p q : a, R H x p ∧ R H y q ∧ min (dep p) (dep q) ≤ 60 ∧ Q (.bl (decide (p ≠ q))) H
theorem op_eqX (hu : X.A.units + 64 < cLine) : OpR X (compareOp .Eq) (rEqX a) := by
  intro pins s σ H x y v u Q I rx ry h
  obtain ⟨p, q, hp, hq, hd, k⟩ := h
  obtain ⟨as, ra⟩ := Dp.reads I _ _ _ (Rep.dp _ _ hp) rx
  obtain ⟨bs, rb⟩ := Dp.reads I _ _ _ (Rep.dp _ _ hq) ry
  have hd' : min (Py.toD p).depth (Py.toD q).depth ≤ 60 := hd
  exact PySem.SeqAt.eq_plain ra rb (DatumX.plain p) (DatumX.plain q) (by omega) (by rw [DatumX.eqv p q]; exact ⟨.bl _, H, I, rfl, k⟩)
theorem op_neX (hu : X.A.units + 64 < cLine) : OpR X (compareOp .NotEq) (rNeX a) := by
  intro pins s σ H x y v u Q I rx ry h
  obtain ⟨p, q, hp, hq, hd, k⟩ := h
  obtain ⟨as, ra⟩ := Dp.reads I _ _ _ (Rep.dp _ _ hp) rx
  obtain ⟨bs, rb⟩ := Dp.reads I _ _ _ (Rep.dp _ _ hq) ry
  have hd' : min (Py.toD p).depth (Py.toD q).depth ≤ 60 := hd
  exact PySem.SeqAt.ne_plain ra rb (DatumX.plain p) (DatumX.plain q) (by omega) (by rw [DatumX.eqv p q, ← decide_not]; exact ⟨.bl _, H, I, rfl, k⟩)
end
/-! ### a tuple of things of one kind, of any length -/
structure Tp (a : Type) where
  l : List a
instance {a : Type} [Py a] : Py (Tp a) := ⟨fun t => .tuple (t.l.map Py.toD)⟩
section
variable {a : Type} [Py a] {F : Hp} {v : V}
theorem R.tp_ {x : Tp a} (h : R F v x) : ∃ p vs, v = .ref p ∧ F p = some (.tup vs) ∧ RL F vs x.l := by
  have h' : Rep F v (.tuple (x.l.map Py.toD)) := h
  cases h' with
  | tup ha hs => exact ⟨_, _, rfl, ha, hs⟩
theorem R.tp2 {q : a × a} (h : R F v q) : R F v (Tp.mk [q.1, q.2]) := h
theorem R.tp3 {q : T3 a a a} (h : R F v q) : R F v (Tp.mk [q.a, q.b, q.c]) := h
theorem R.tp1 {w : Str} (h : R F v (Sm.nam w)) : R F v (Tp.mk [w]) := h
end
end PG

set_option Elab.async false
set_option linter.all false
set_option maxRecDepth 100000
set_option maxHeartbeats 4000000
namespace PG
open PySem PySem.Spec PyProof.Rows L2
open PySem.W (T3 T4 Datum DatumOrd Holds HoldAll EachIs)
/-! ### dict(a list of pairs), the keys tuples -/
def mergeT (kvs more : List (List Key × V)) : List (List Key × V) := more.foldl (fun m q => putK m q.1 q.2) kvs
theorem mergeT_kt {H : Hp} {kvs : List (List Key × V)} {xs : List (List Key × Addr × Value)} (r : KT H kvs xs) : ∀ {m : List (List Key × V)} {ms : List (List Key × Addr × Value)}, KT H m ms →
    KT H (mergeT m kvs) (storedAllH ms xs) := by
  induction r with
  | nil => intro m ms h; exact h
  | @cons p q ps qs h t ih =>
    intro m ms hm
    obtain ⟨e, hb, rv⟩ := h
    have := ih (KT.put hm q.1 (b := q.2.1) (by rw [← e]; exact hb) rv)
    unfold mergeT storedAllH at *
    rw [List.foldl_cons, List.foldl_cons, e]
    exact this
def PairT (K : PySem.W.Frag) (H : Hp) (p : Addr × Addr) (q : List Key × V) : Prop := SqT K H p.1 [.ref p.2, q.2] ∧ H p.2 = some (.tup (q.1.map kV))
theorem kt_at {H : Hp} {kvs : List (List Key × V)} {xs : List (List Key × Addr × Value)} (r : KT H kvs xs) : ∀ x ∈ xs, H x.2.1 = some (.tup (x.1.map kV)) := by
  induction r with
  | nil => exact fun x hx => nomatch hx
  | cons h _ ih => intro x hx; rcases List.mem_cons.mp hx with rfl | hx; · rw [← h.1]; exact h.2.1
                   · exact ih x hx
theorem ne_of_none {H : Hp} {b c : Addr} {o : HO} (e : H c = some o) (n : H b = none) : c ≠ b := fun z => by rw [z, n] at e; exact nomatch e
section
variable {X : Cx}
theorem tripT {pins : List (Addr × Obj)} {σ : L2.St} {H : Hp} {s : Shared} (I : Inv X pins σ H s) {ps : List (Addr × Addr)} {kvs : List (List Key × V)} (h : Paired (PairT X.K H) ps kvs) :
    ∃ xs : List (List Key × Addr × Value), KT H kvs xs ∧ xs.length = ps.length ∧ ∀ (j : Nat) q, xs[j]? = some q → ∃ b, ps[j]? = some b ∧ b.2 = q.2.1 ∧ IsTup s.heap b.1 #[.ref q.2.1, q.2.2] := by
  induction h with
  | nil => exact ⟨[], .nil, rfl, fun j q e => by simp at e⟩
  | @cons p kv ps' kvs' h t ih =>
    obtain ⟨xs, r, hl, hx⟩ := ih
    obtain ⟨h1, h2⟩ := h
    obtain ⟨its, rv, ht, _⟩ := I.tuple h1
    obtain ⟨u, y, ei, ru, ry⟩ := vals2 rv
    subst ei
    cases ru
    refine ⟨(kv.1, p.2, y) :: xs, .cons ⟨rfl, h2, ry⟩ r, by simp [hl], fun j q e => ?_⟩
    cases j with
    | zero =>
      have e' : (kv.1, p.2, y) = q := Option.some.inj e
      subst e'
      exact ⟨p, rfl, rfl, ht⟩
    | succ j => exact (hx j q (by simpa using e)).imp fun b z => ⟨by simpa using z.1, z.2⟩
theorem refs_pT : ∀ {ps : List (Addr × Addr)} {us : List Value}, Vals (ps.map fun p => V.ref p.1) us → us = ps.map fun p => Value.ref p.1
  | [], us, r => by rw [List.map_nil] at r; cases r; rfl
  | p :: ps, us, r => by
    rw [List.map_cons] at r
    cases r with
    | cons h t => cases h; rw [List.map_cons, ← refs_pT t]
theorem call_dictT (hcalm : X.calm = true) (hu : X.A.units + 64 < cLine) : CallR X (.type "dict") (fun xs H Q => ∃ (a : Addr) (ps : List (Addr × Addr)) (kvs : List (List Key × V)), xs = [.ref a] ∧
    SqL X.K H a (ps.map fun p => V.ref p.1) ∧ Paired (PairT X.K H) ps kvs ∧ ∀ p, H p = none → Q (.ref p) (upd H p (.dT (mergeT [] kvs)))) := by
  intro pins s σ H zs us Q I r q
  obtain ⟨a, ps, kvs, ez, hq, hp, q⟩ := q
  subst ez
  obtain ⟨u, eu, rx⟩ := vals1 r
  subst eu
  cases rx
  obtain ⟨its, rv, pl, hz⟩ := I.list hq
  have ei := refs_pT rv
  subst ei
  obtain ⟨xs, rel, hl, hx⟩ := tripT I hp
  obtain ⟨o, n, ho, hc, hd, hdat⟩ := pl
  have hz' : ps.length ≤ sizeLine := by simpa using hz
  have hkey : ∀ x ∈ xs, (tupleKind (mixKind X.prog X.w)).is s.heap x.1 x.2.1 := fun x hxm => key_of I.hok (kt_at rel x hxm)
  have hps : ∀ (j : Nat) (k v : Value), (xs.map fun x => (Value.ref x.2.1, x.2.2))[j]? = some (k, v) → ∃ q, xs[j]? = some q ∧ k = .ref q.2.1 ∧ v = q.2.2 := fun j k v e => by
    rw [List.getElem?_map] at e
    cases hq' : xs[j]? with
    | none => rw [hq'] at e; exact nomatch e
    | some q' => rw [hq'] at e; cases e; exact ⟨q', rfl, rfl, rfl⟩
  refine call_dict_pairsH (knd := tupleKind (mixKind X.prog X.w)) (ps := xs)
    (PairArg.list a _ (fun j => ((ps[j]?).map (·.1)).getD 0) (xs.map fun x => (Value.ref x.2.1, x.2.2))) (I.ok.hd hcalm) (show X.A.units + 1 + 1 < cLine by omega)
    ⟨⟨o, n, ho, hc, hd, hdat⟩, ⟨by simp [hl], fun j k v e => ?_⟩⟩ ⟨by simp, fun i k v e => ?_⟩ (fun h' hk x hxm => ?_) (by simpa [hl] using hz') fun h' tk hd' hk => ?_
  · obtain ⟨q', e1, rfl, rfl⟩ := hps j k v e
    obtain ⟨b, e2, _, ht⟩ := hx j q' e1
    have e3 : ((ps[j]?).map (·.1)).getD 0 = b.1 := by rw [e2]; rfl
    show _ ∧ PairAt s.heap (((ps[j]?).map (·.1)).getD 0) _ _
    rw [e3]
    exact ⟨by show _ = some (Value.ref (((ps[j]?).map (·.1)).getD 0)); rw [e3]; simp [e2], .inl ht⟩
  · obtain ⟨q', e1, rfl, rfl⟩ := hps i k v e
    exact ⟨q'.1, q'.2.1, e1, rfl⟩
  · obtain ⟨o', its', n', h1, h2⟩ := hkey x hxm
    exact ⟨o', its', n', hk _ _ (Nat.ne_of_lt (Heap.lt_size h1)) (fun z => nomatch z) h1, h2⟩
  · have hm : (s.heap.objs.size == sysModules) = false := beq_eq_false_iff_ne.mpr (Nat.ne_of_gt I.big)
    have hlen : (mergeT [] kvs).length ≤ sizeLine := by
      have h1 := Paired.length (mergeT_kt rel (m := []) (ms := []) .nil)
      have h2 := storedAllH_length xs ([] : List (List Key × Addr × Value))
      rw [List.length_nil, Nat.zero_add] at h2
      rw [h1]
      exact Nat.le_trans h2 (by rw [hl]; exact hz')
    obtain ⟨q', es, ep, g1, g2, g3, g4, _, g5⟩ := hd'
    refine ⟨.ref s.heap.objs.size, upd H s.heap.objs.size (.dT (mergeT [] kvs)), I.laid (t' := tk) (fun b o' e => hk b o' (fun z => nomatch z) e) (Nat.le_refl _) ⟨hlen, hm, _, (mergeT_kt rel .nil).keeps fun c ys ec => ?_, q', es, ep, g1, g2, g3, g4, g5⟩,
      rfl, q _ (I.hok.fresh (Nat.le_refl _))⟩
    rw [upd_ne (ne_of_none ec (I.hok.fresh (Nat.le_refl _)))]
    exact ec
end
section
variable {β : Type} [Py β] {F H : Hp}
def mergeDT (xs : List ((Int × Int) × β)) : List ((Int × Int) × β) := xs.foldl (fun m p => dPut m p.1 p.2) []
theorem mergeT_rd {kvs : List (List Key × V)} {xs : List ((Int × Int) × β)} (hs : RD F kvs xs) : ∀ {m : List (List Key × V)} {ms : List ((Int × Int) × β)}, RD F m ms → RD F (mergeT m kvs) (xs.foldl (fun m p => dPut m p.1 p.2) ms) := by
  induction hs with
  | nil => intro m ms h; exact h
  | @cons k v y kvs xs hv _ ih =>
    intro m ms h
    exact ih (h.put k hv)
theorem pairsT_of_rl {K : PySem.W.Frag} (s : Same F H) : ∀ {vs : List V} {xs : List ((Int × Int) × β)}, RL F vs xs → ∃ (ps : List (Addr × Addr)) (kvs : List (List Key × V)),
    vs = (ps.map fun p => V.ref p.1) ∧ Paired (PairT K H) ps kvs ∧ RD F kvs xs
  | _, [], h => ⟨[], [], RL.nil_ h, .nil, .nil⟩
  | _, x :: xs, h => by
    obtain ⟨w, ws, rfl, h1, h2⟩ := RL.cons_ h
    obtain ⟨ps, kvs, e, hp, hr⟩ := pairsT_of_rl (K := K) s h2
    obtain ⟨p, v1, v2, rfl, hp1, h3, h4⟩ := R.t2_ h1
    obtain ⟨b, w1, w2, rfl, hb, h5, h6⟩ := R.t2_ h3
    rw [R.int_ h5, R.int_ h6] at hb
    exact ⟨(p, b) :: ps, ([.inl x.1.1, .inl x.1.2], v2) :: kvs, by rw [e]; rfl, .cons ⟨SqT.of (s _ _ hp1), s _ _ hb⟩ hp, .cons (k := x.1) h4 hr⟩
end
/-! ### max and min of a list -/
def mxI : List Int → Option Int
  | [] => none
  | x :: xs => match mxI xs with
    | none => some x
    | some m => some (if m < x then x else m)
def mnI : List Int → Option Int
  | [] => none
  | x :: xs => match mnI xs with
    | none => some x
    | some m => some (if x < m then x else m)
theorem mxI_none : ∀ {xs : List Int}, mxI xs = none → xs = []
  | [], _ => rfl
  | x :: xs, h => by
    unfold mxI at h
    cases e : mxI xs <;> rw [e] at h <;> exact nomatch h
theorem mnI_none : ∀ {xs : List Int}, mnI xs = none → xs = []
  | [], _ => rfl
  | x :: xs, h => by
    unfold mnI at h
    cases e : mnI xs <;> rw [e] at h <;> exact nomatch h
theorem mxI_is : ∀ {xs : List Int} {m : Int}, mxI xs = some m → m ∈ xs ∧ ∀ y ∈ xs, y ≤ m
  | [], _, h => nomatch h
  | x :: xs, m, h => by
    unfold mxI at h
    cases e : mxI xs with
    | none =>
      rw [e] at h
      cases h
      rw [mxI_none e]
      exact ⟨List.mem_cons_self, fun y hy => by rw [List.mem_singleton.mp hy]; exact Int.le_refl _⟩
    | some n =>
      rw [e] at h
      obtain ⟨h1, h2⟩ := mxI_is e
      have h : (if n < x then x else n) = m := Option.some.inj h
      by_cases z : n < x
      · rw [if_pos z] at h
        subst h
        refine ⟨List.mem_cons_self, fun y hy => ?_⟩
        rcases List.mem_cons.mp hy with hy | hy
        · omega
        · have := h2 y hy; omega
      · rw [if_neg z] at h
        subst h
        refine ⟨List.mem_cons_of_mem _ h1, fun y hy => ?_⟩
        rcases List.mem_cons.mp hy with hy | hy
        · omega
        · exact h2 y hy
theorem mnI_is : ∀ {xs : List Int} {m : Int}, mnI xs = some m → m ∈ xs ∧ ∀ y ∈ xs, m ≤ y
  | [], _, h => nomatch h
  | x :: xs, m, h => by
    unfold mnI at h
    cases e : mnI xs with
    | none =>
      rw [e] at h
      cases h
      rw [mnI_none e]
      exact ⟨List.mem_cons_self, fun y hy => by rw [List.mem_singleton.mp hy]; exact Int.le_refl _⟩
    | some n =>
      rw [e] at h
      obtain ⟨h1, h2⟩ := mnI_is e
      have h : (if x < n then x else n) = m := Option.some.inj h
      by_cases z : x < n
      · rw [if_pos z] at h
        subst h
        refine ⟨List.mem_cons_self, fun y hy => ?_⟩
        rcases List.mem_cons.mp hy with hy | hy
        · omega
        · have := h2 y hy; omega
      · rw [if_neg z] at h
        subst h
        refine ⟨List.mem_cons_of_mem _ h1, fun y hy => ?_⟩
        rcases List.mem_cons.mp hy with hy | hy
        · omega
        · exact h2 y hy
theorem mxI_uq {xs : List Int} {m n : Int} (h : mxI xs = some m) (h1 : n ∈ xs) (h2 : ∀ y ∈ xs, y ≤ n) : m = n := by
  have a := mxI_is h
  have b := a.2 n h1
  have c := h2 m a.1
  omega
theorem mnI_uq {xs : List Int} {m n : Int} (h : mnI xs = some m) (h1 : n ∈ xs) (h2 : ∀ y ∈ xs, n ≤ y) : m = n := by
  have a := mnI_is h
  have b := a.2 n h1
  have c := h2 m a.1
  omega
section
variable {X : Cx} {K : PySem.W.Frag}
theorem cr_maxK (hc : X.calm = true) (h : X.K = K) : CallR X (.builtin "max") (rMax K) := by rw [← h]; exact cr_max hc
theorem cr_minK (hc : X.calm = true) (h : X.K = K) : CallR X (.builtin "min") (rMin K) := by rw [← h]; exact cr_min hc
end
end PG

set_option Elab.async false
set_option linter.all false
set_option maxRecDepth 100000
set_option maxHeartbeats 4000000
namespace PG
open PySem PySem.Spec PyProof.Rows L2
open PySem.W (T3 T4 Datum DatumOrd Holds HoldAll EachIs)
/-! ### an exception that was caught and is kept: tracked from then on -/
def excAt (cls : Value) (d : Option Addr) (a : Addr) : Heap → Prop := fun h => ∃ o vs, h.get? a = some o ∧ Zc cls d o ∧ o.data = .fields vs
def excO (cls : Value) (d : Option Addr) (a : Addr) : HO := .ext (excAt cls d a)
section
variable {X : Cx} {pins : List (Addr × Obj)} {σ : L2.St} {H : Hp} {s : Shared}
theorem adopt {a : Addr} {cls : Value} {d : Option Addr} (I : L2.Inv X pins σ H s) (ha : H a = none) (hp : excAt cls d a s.heap) (h0 : X.s_0.heap.get? a = none) (nL : a ≠ X.env.locals) (np : ∀ p ∈ X.pn ++ pins, p.1 ≠ a) :
    L2.Inv X pins σ (upd H a (excO cls d a)) s := by
  obtain ⟨o, vs, ho, hz, hd⟩ := id hp
  have keep : ∀ {b : Addr} {u : HO}, H b = some u → upd H a (excO cls d a) b = some u := fun {b u} q => (upd_ne (ne_of_none q ha)).trans q
  have bare : ∀ {b : Addr}, b ≠ a → H b = none → upd H a (excO cls d a) b = none := fun {b} z q => (upd_ne z).trans q
  refine ⟨I.ok, I.os, I.bare, ⟨I.base.keep, I.base.slot, fun b u q n hx => bare (fun z => ?_) (I.base.free b u q n hx), I.base.there, fun b xs q => keep (I.base.tups b xs q), fun b u v q => keep (I.base.frzs b u v q), fun b ps q => ?_⟩, I.loc, I.cell, bare (Ne.symm nL) I.free, fun y k e => bare (fun z => ?_) (I.freeC y k e), fun p hq => ?_, ?_, I.len⟩
  · rw [z, h0] at q; exact nomatch q
  · obtain ⟨more, r⟩ := I.base.tbls b ps q
    exact ⟨more, keep r⟩
  · obtain ⟨v, w, hw, hv⟩ := I.cell y k e
    rw [z, ho] at hw
    cases hw
    rw [hd] at hv
    exact nomatch hv
  · obtain ⟨q1, q2, q3⟩ := I.pin p hq
    exact ⟨q1, bare (np p hq) q2, q3⟩
  · exact L2.HOk.laidN I.hok (fun _ _ q => q) ha ⟨hp, ⟨o, ho⟩, fun g1 g2 x k => x.imp fun o' y => y.imp fun vs' z => ⟨k _ z.1, z.2⟩⟩
end
/-- what the clause 'except x as n', whose suite keeps the exception, wishes -/
def wKeep (K : PySem.W.Frag) (c : Value) (i : Nat) (ts : Addr → TS) (out : WX) (D : Ends) : WX := fun cls d σ H =>
  ∃ b, PySem.W.exmOne K cls c = some b ∧ (b = true → ∀ a, H a = none → ts a { nx := fun σ' H' => D.nx (σ'.set i none) (upd H' a (excO cls d a)), rt := fun _ _ => False, bk := fun _ _ => False, ct := fun _ _ => False } (σ.set i (some (.ref a))) H) ∧ (b = false → out cls d σ H)
section
variable {X : Cx} {x n : Str} {c : Value} {i : Nat} {body suite : List Stmt} {b1 : Stmt} {np q1 q2 : Pos} {tb : WX → TS} {ts : Addr → TS} {out : WX}
theorem ps_try_keep (hs : X.stack = X.env :: X.outer) (hf : X.env.frame = some X.env.locals) (hex : X.ex = []) (hN : X.N.Nodup) (hi : X.N[i]? = some n) (hl : X.env.kindOf n = some .local) (hc : Names X x c) (tk : Takes X out)
    (hb : ∀ (W : WX) (pn : List (Addr × Obj)) (xe : Value → Shared → Prop), Takes (X.tr pn xe) W → PassesOwn (model X.prog X.w) X.A X.env xe → PSs (X.tr pn xe) body (tb W))
    (hsu : ∀ (a : Addr) (o : Obj) (pn : List (Addr × Obj)), PSs (X.suite a ((a, o) :: pn)) (b1 :: suite) (ts a)) :
    PS X (.Try body [.ExceptHandler (some (.Name x np)) (some n) (b1 :: suite) q1] [] [] q2) (fun D σ H => tb (wKeep X.K c i ts out D) D σ H) := by
  refine ⟨fun pins s σ H D I wish => wpAny_Try_except ?_⟩
  have ok := I.ok
  have hfr : X.A.frames = some (X.env :: X.outer) := ok.frames.trans (by rw [hs])
  have run := (hb (wKeep X.K c i ts out D) (X.pn ++ pins) (fun e g1 => wpAny (model X.prog X.w) X.A (noteFrame e X.env) (fun _ g2 => wpAny (model X.prog X.w) X.A (setFlight e none)
    (fun _ g3 => wpAny (model X.prog X.w) X.A (handleBy e X.env [.ExceptHandler (some (.Name x np)) (some n) (b1 :: suite) q1]) (SP X pins D) X.xe g3) X.xe g2) X.xe g1)
    (fun u g ⟨a, B, sI, ps, τ, G, cls, d, eu, J0, nb, up, sky, na, eos, ag, b, hb1, yes, no⟩ => by
      subst eu
      have J : L2.Inv X pins τ G sI := J0.ofTry ok
      show wpAny (model X.prog X.w) X.A (noteFrame (.ref a) X.env) _ _ _
      refine Sky.land Zc.steady hfr hf (show Sky B (X.env :: X.outer) a (Zc cls d) X.env.locals g.heap by rw [← hs]; exact sky) fun k1 fl1 up1 => ?_
      have J1 : L2.Inv X pins τ G { g with heap := k1 } := J.landed nb fl1.1 (up.trans up1) eos ag
      obtain ⟨o1, vs1, ho1, hz1, hd1⟩ := fl1.there
      have off : a ∉ frs (X.env :: X.outer) := fun hm => by
        obtain ⟨_, o', eo, hnf⟩ := fl1.2.2.1.mem hm
        rw [ho1] at eo
        cases eo
        exact hnf _ hd1
      have nL : a ≠ X.env.locals := fun z => off (List.mem_filterMap.mpr ⟨X.env, List.mem_cons_self, by rw [hf, z]⟩)
      have nF : a ∉ X.fs := fun hm => by
        obtain ⟨e, he, q⟩ := List.mem_filterMap.mp hm
        exact off (List.mem_filterMap.mpr ⟨e, List.mem_cons_of_mem _ he, q⟩)
      have young : ∀ o, sI.heap.get? a ≠ some o := fun o q => by
        have z := nb a o q (by rw [hs]; exact off)
        rw [fl1.2.1] at z
        exact nomatch z
      have h0 : X.s_0.heap.get? a = none := by
        cases q : X.s_0.heap.get? a with
        | none => rfl
        | some o =>
          obtain ⟨o', z⟩ := J.base.there a o q (by rw [hex]; exact fun z => nomatch z)
          exact (young _ z).elim
      have offp : ∀ p ∈ X.pn ++ pins, p.1 ≠ a := fun p hp z => young p.2 (by rw [← z]; exact (J.pin p hp).1)
      have S1 := J1.suite ho1 hd1 na nL nF
      refine wpAny_handleBy_cons (codeAny_handlers_test ?_) (fun q => nomatch q)
      have look : PySem.W.Looks (model X.prog X.w) k1 (typeOf (.ref a)) cls := fun _ _ _ _ k q => wpAny_typeOf_ref (k _ _ ho1) (by rw [hz1.1]; exact q)
      have match_ := PySem.W.exm_one (M := model X.prog X.w) J1.kIn look hb1
      have named : ∀ {Q : Value → Shared → Prop} {E : Value → Shared → Prop}, Q c { g with heap := k1 } → wpAny (model X.prog X.w) (X.A.mark (some (.ref a))) (eval (.Name x np) X.env) Q E { g with heap := k1 } := fun {Q E} q => by
        obtain ⟨hg, hdbg, hm | ⟨hm, hv, hnn⟩⟩ := hc
        · exact ld_glob (X := X.suite a ((a, o1) :: (X.pn ++ pins))) S1 hg hm q hdbg
        · exact ld_blt (X := X.suite a ((a, o1) :: (X.pn ++ pins))) S1 hg hm hv q hnn hdbg
      refine named (match_.here ?_)
      cases b with
      | true =>
        refine codeAny_handlers_suite_as (HandSPX.lands_againZ fl1 fun k2 fl2 up2 => ?_)
        have J2 : L2.Inv X pins τ G { g with heap := k2 } := J.landed nb fl2.1 ((up.trans up1).trans up2) eos ag
        obtain ⟨o2, vs2, ho2, hz2, hd2⟩ := fl2.there
        refine store_ok (X := X.suite a ((a, o2) :: (X.pn ++ pins))) (v := .ref a) (J2.suite ho2 hd2 na nL nF) hN hi (.inl hl) rfl (fun g5 S5 => ?_) (.inr hl)
        refine wpAny_mono ((hsu a o2 (X.pn ++ pins)).run [] g5 _ G _ S5 (yes rfl a na)) (fun f g6 hsp => ?_) (fun _ _ z => z.elim)
        cases f with
        | next =>
          obtain ⟨τ6, G6, S6, q6⟩ := hsp
          refine gone_ok (X := X.suite a ((a, o2) :: (X.pn ++ pins))) S6 hN hi hl fun g7 S7 => ?_
          obtain ⟨hget, hn7, _⟩ := S7.pin (a, o2) (List.mem_append_left _ List.mem_cons_self)
          exact ⟨_, _, adopt (S7.unsuite ok) hn7 ⟨o2, vs2, hget, hz2, hd2⟩ h0 nL offp, q6⟩
        | brk => obtain ⟨_, _, _, q6⟩ := hsp; exact q6.elim
        | cont => obtain ⟨_, _, _, q6⟩ := hsp; exact q6.elim
        | ret u => obtain ⟨_, _, _, _, _, q6⟩ := hsp; exact q6.elim
      | false =>
        refine wpAny_handleBy_nil ?_
        obtain ⟨_, _, _, o3, vs3, T, oT, ts3, he, hz, hd, h1, hr⟩ := id fl1
        unfold PySem.passOn
        refine wpAny_bind (wpAny_field he hd h1 ?_)
        rw [if_neg (by simp : ¬ ((Value.ref T == Value.none) = true))]
        have up_ : wpAny (model X.prog X.w) X.A (setFlight (.ref a) X.env.frame) (fun _ g4 => wpAny (model X.prog X.w) X.A (throw (.ref a) : Sem Flow) (SP X pins D) X.xe g4) X.xe { g with heap := k1 } := by
          rw [hf]
          exact HandSPX.setFlight_upZ fl1 fun k2 fl2 up2 => wpAny_throw (tk _ _ ⟨a, B, sI, pins, τ, G, cls, d, rfl, J, nb, (up.trans up1).trans up2, .inr (.inr (by rw [hs]; exact fl2)), na, eos, ag, no rfl⟩)
        first
          | exact wpAny_bind up_
          | exact wpAny_bind (wpAny_pure (wpAny_bind up_)))
    PassesOwn.looking).run [] s σ H D (I.toTry _) wish
  refine wpAny_mono run (fun f g hsp => ?_) (fun _ _ z => z)
  cases f with
  | next => obtain ⟨τ, G, J, q⟩ := hsp; exact wpAny_execs_nil ⟨τ, G, J.ofTry ok, q⟩
  | brk => obtain ⟨τ, G, J, q⟩ := hsp; exact ⟨τ, G, J.ofTry ok, q⟩
  | cont => obtain ⟨τ, G, J, q⟩ := hsp; exact ⟨τ, G, J.ofTry ok, q⟩
  | ret u => obtain ⟨v, τ, G, J, r, q⟩ := hsp; exact ⟨v, τ, G, J.ofTry ok, r, q⟩
end
/-! ### isinstance of what was caught -/
section
variable {X : Cx}
theorem inst_of {a D : Addr} {h : Heap} (x : excAt (.ref D) none a h) : ∃ o, PySem.W.InstAt h a o D none := by
  obtain ⟨⟨oc, od, oda, osl⟩, vs, hg, ⟨h1, h2⟩, h3⟩ := x
  dsimp only at h1 h2 h3
  subst h1 h2 h3
  exact ⟨_, hg, rfl, rfl, trivial⟩
/-- whose class is t: what was caught, or a value of a built-in type -/
inductive KX (K : PySem.W.Frag) (H : Hp) : V → Value → Prop where
  | exc {a D : Addr} (e : H a = some (excO (.ref D) none a)) (c : ExcC K D) : KX K H (.ref a) (.ref D)
  | base {x : V} {t : Value} (h : TyX K H x t) : KX K H x t
theorem kx_of {pins : List (Addr × Obj)} {σ : L2.St} {H : Hp} {s : Shared} {x : V} {u t : Value} (I : L2.Inv X pins σ H s) (rx : RelV x u) (k : KX X.K H x t) : ∃ P : Heap → Prop, PySem.W.KitX X.K u t P ∧ P s.heap ∧ u ≠ .builtin "__main__.__loader__#opaque" := by
  cases k with
  | @exc a D e C =>
    cases (show u = Value.ref a from rx)
    obtain ⟨o, J⟩ := inst_of (show excAt (.ref D) none a s.heap from (I.hok a _ e).1)
    exact ⟨_, PySem.W.handS_kitx_exc C.hg C.hk C.hs C.hd C.ha C.hn C.ht C.hm, J, fun z => nomatch z⟩
  | base h => exact kit_of I rx h
def rIsU (K : PySem.W.Frag) : List V → Hp → VK → Prop := fun xs H Q => ∃ (x c : V) (t u : Value) (b : Bool), xs = [x, c] ∧ ClsV c u ∧ KX K H x t ∧ PySem.W.kitOne K t u = some b ∧ Q (.bl b) H
theorem isuK {K : PySem.W.Frag} (hK : X.K = K) : CallR X (.builtin "isinstance") (rIsU K) := by
  subst hK
  intro pins s σ H xs us Q I r ⟨x, c, t, u, b, ex, hc, k, e, q⟩
  subst ex
  obtain ⟨u1, u2, rfl, r1, r2⟩ := vals2 r
  cases hc.eq r2
  obtain ⟨P, Z, p, hx⟩ := kx_of I r1 k
  exact PySem.W.kia_one Z I.kIn p e hx fun tk => ⟨.bl b, H, I.tok tk, rfl, q⟩
def rIsUT (K : PySem.W.Frag) : List V → Hp → VK → Prop := fun xs H Q => ∃ (x : V) (tp : Addr) (cs : List V) (t : Value) (ws : List Value) (b : Bool), xs = [x, .ref tp] ∧ H tp = some (.tup cs) ∧ Paired ClsV cs ws ∧ KX K H x t ∧ PySem.W.kitAny K t ws = some b ∧ Q (.bl b) H
theorem isutK {K : PySem.W.Frag} (hK : X.K = K) : CallR X (.builtin "isinstance") (rIsUT K) := by
  subst hK
  intro pins s σ H xs us Q I r ⟨x, tp, cs, t, ws, b, ex, hT, hc, k, e, q⟩
  subst ex
  obtain ⟨u1, u2, rfl, r1, r2⟩ := vals2 r
  cases (show u2 = Value.ref tp from r2)
  obtain ⟨P, Z, p, hx⟩ := kx_of I r1 k
  obtain ⟨_, its, rv, ⟨oc, od, dt, sl⟩, h1, h2, n, h3⟩ := (show ObjOk X.prog X.w H s.heap tp (.tup cs) from I.hok tp _ hT)
  have e3 := ClsV.all hc rv
  subst e3
  dsimp only at h2 h3
  subst h2 h3
  exact PySem.W.kia_tup Z I.kIn p h1 e hx fun tk => ⟨.bl b, H, I.tok tk, rfl, q⟩
end
theorem kit_own {K : PySem.W.Frag} {t : Value} {C : Addr} {b : Bool} (hd : PySem.W.hasDictIn K C = true) (ht : PySem.W.typeIn K (.ref C) = some (.type "type")) (hs : PySem.W.subIn K t (.ref C) = some b) (ho : PySem.W.subIn K (.ref C) (.ref C) = some true) : PySem.W.kitOne K t (.ref C) = some b := by
  obtain ⟨cd, hc, _⟩ := PySem.W.any_some hd
  unfold PySem.W.kitOne PySem.W.kitCls
  by_cases z : (t == .ref C) = true
  · rw [if_pos z]
    have z := beq_iff_eq.mp z
    subst z
    exact ho.symm.trans hs
  · rw [if_neg z]
    show (if ((PySem.W.clsIn K C).isSome && PySem.W.typeIn K (.ref C) == some (.type "type")) = true then _ else _) = _
    rw [if_pos (by rw [hc, ht]; rfl)]
    exact hs
theorem kit_blt {K : PySem.W.Frag} {D : Addr} {T : String} {b : Bool} (hm : PySem.W.kitMeta T = true) (hs : PySem.W.subIn K (.ref D) (.type T) = some b) : PySem.W.kitOne K (.ref D) (.type T) = some b := by
  unfold PySem.W.kitOne PySem.W.kitCls
  rw [if_neg (by simp)]
  show (if PySem.W.kitMeta T = true then _ else _) = _
  rw [if_pos hm]
  exact hs
theorem any_no {K : PySem.W.Frag} {t c : Value} {cs : List Value} {r : Bool} (h : PySem.W.kitOne K t c = some false) (hr : PySem.W.kitAny K t cs = some r) : PySem.W.kitAny K t (c :: cs) = some r := kitAny_cons h (fun _ => hr) fun z => nomatch z
theorem any_yes {K : PySem.W.Frag} {t c : Value} {cs : List Value} (h : PySem.W.kitOne K t c = some true) : PySem.W.kitAny K t (c :: cs) = some true := kitAny_cons h (fun z => nomatch z) fun _ => rfl
/-! ### a call within a try -/
def tCallW (sp : Sp) (W : WX) (t : TA) : TE := fun σ H Q => t σ H fun vs H1 => sp vs H1 Q fun cls d H' => W cls d σ H'
theorem pe_callW {X : Cx} {k : Nat} {f : Addr} {fd : FuncData} {ps : List Str} {sp : Sp} {W : WX} {x : Str} {p pos : Pos} {e : Expr} {es : List Expr} {t : TA} (F : FnOk X.prog X.w X.K X.mg X.base (L2.CX X.prog X.w) k f fd ps sp) (hr : Room k X.A) (hg : Gl X x) (hm : X.mg x = some (.ref f)) (hk : PySem.W.keepIn X.K (.ref f) = true) (hb : Binds X.K fd ps [])
    (tk : Takes X W) (ha : PA X (e :: es) t) (hdb : (x == ("__debug__" : Str)) = false := by decide) (he : starEach (e :: es) X.env = (false, eval e X.env) :: starEach es X.env := by rfl) (hpl : (backTo pos (starEach es X.env)).any (·.1) = false := by rfl) :
    PE X (.Call (.Name x p) (e :: es) [] pos) (tCallW sp W t) := by
  refine ⟨fun pins s σ H Q I h => wpAny_Call_Name_kw (ld_glob I hg hm ?_ hdb)⟩
  refine PySem.W.callWith_K (h₀ := X.base) I.ok.mod.kin hk (thn (ha.run pos pins s σ H _ I h) fun us g ⟨vs, G, J, r, q⟩ => ⟨J.kIn, ?_⟩) he hpl
  have hl : us.length = ps.length := by rw [← r.length]; exact F.len _ _ _ _ q
  refine wpAny_call (codeAny_mono (F.run X.A X.stack g G ⟨us, []⟩ us vs Q (fun cls d H' => W cls d σ H') hr J.env0 (by have := hb g us J.kIn (by simpa using hl); simpa using this) r q) fun res g' hq => ?_)
  cases res with
  | error z => exact tk _ _ (XE.of_call J (fun _ _ _ h => h) hq)
  | ok fl =>
    cases fl with
    | ret u => exact J.after hq
    | next => exact hq.elim
    | brk => exact hq.elim
    | cont => exact hq.elim
/-- try: m, except one of those of L: k1, else k0 -/
def tryK {a : Type} (L : List String) (m : M Unit) (k0 : M a) (k1 : String → M a) : M a := match m with
  | .ok _ => k0
  | .error .bad => bad
  | .error (.exc n) => if n ∈ L then k1 n else bad
theorem wp_tryK {b : Type} {L : List String} {m : M Unit} {k0 : M b} {k1 : String → M b} {Q : b → Prop} {E : String → Prop} (h : wp (tryK L m k0 k1) Q E) : wp m (fun _ => wp k0 Q E) fun n => n ∈ L ∧ wp (k1 n) Q E := by
  cases m with
  | ok x => exact h
  | error e =>
    cases e with
    | bad => exact h
    | exc n =>
      by_cases z : n ∈ L
      · have e : tryK L (.error (.exc n)) k0 k1 = k1 n := if_pos z
        rw [e] at h
        exact ⟨z, h⟩
      · have e : tryK L (.error (.exc n)) k0 k1 = bad := if_neg z
        rw [e] at h
        exact h.elim
theorem wp_okE {a : Type} {x : a} {Q : a → Prop} {E : String → Prop} (h : wp (.ok x : M a) Q E) : Q x := h
theorem Ow.exc {Z : Ent} {F H H1 : Hp} {cs : List (Addr × HO)} (O : Ow Z F cs H) (k : Kp [] H H1) : Ow Z F cs H1 where
  g := {
    f := O.g.f
    s := fun b o e => k.k b o (fun z => nomatch z) (O.g.s b o e)
    k := fun b o hb e => k.k b o (fun z => nomatch z) (O.g.k b o hb e)
    t := fun b h => k.t b (O.g.t b h)
    n := O.g.n
    u := fun b xs e => by
      cases q : H b with
      | none =>
        left
        cases z : Z.H b with
        | none => rfl
        | some o => exact (O.g.t b (by rw [z]; exact fun w => nomatch w) q).elim
      | some o =>
        have := k.k b o (fun z => nomatch z) q
        rw [e] at this
        cases this
        exact O.g.u b xs q }
  cf := O.cf
  ch := fun c hc => k.k _ _ (fun z => nomatch z) (O.ch c hc)
  nd := O.nd
  ca := O.ca
  nt := O.nt
theorem mem1 {n a : String} (h : n ∈ [a]) : n = a := List.mem_singleton.mp h
theorem mem2 {n a b : String} (h : n ∈ [a, b]) : n = a ∨ n = b := by simpa using h
/-! ### lists of truths: count, index -/
theorem RL.bools {H : Hp} : ∀ {vs : List V} {xs : List Bool}, RL H vs xs → vs = xs.map V.bl
  | _, [], h => RL.nil_ h
  | _, x :: xs, h => by
    obtain ⟨w, ws, rfl, h1, h2⟩ := RL.cons_ h
    rw [R.bl_ h1, RL.bools h2]
    rfl
def cntB (k : Bool) : List Bool → Int
  | [] => 0
  | y :: r => (if y = k then 1 else 0) + cntB k r
theorem cnt_in (k : Bool) : ∀ bs : List Bool, PySem.Spec.countIn (.bool k) (bs.map PyData.bool) = cntB k bs
  | [] => rfl
  | b :: bs => by
    show (if same (PyData.bool b) (PyData.bool k) = true then (1 : Int) else 0) + PySem.Spec.countIn _ _ = _
    rw [cnt_in k bs]
    cases b <;> cases k <;> rfl
theorem bools_vals : ∀ {bs : List Bool} {its : List Value}, Vals (bs.map V.bl) its → its = bs.map Value.bool
  | [], its, r => by rw [List.map_nil] at r; cases r; rfl
  | b :: bs, its, r => by
    rw [List.map_cons] at r
    cases r with
    | cons h t => cases h; rw [List.map_cons, ← bools_vals t]
theorem reads_bools {hp : Heap} : ∀ bs : List Bool, ReadsAll hp (bs.map Value.bool) (bs.map PyData.bool) []
  | [] => .nil
  | b :: bs => .cons (as := []) (bs := []) (.bool b) (reads_bools bs)
def rCntB (K : PySem.W.Frag) : V → List V → Hp → VK → Prop := fun x xs H Q => ∃ (a : Addr) (bs : List Bool) (k : Bool), x = .ref a ∧ xs = [.bl k] ∧ SqL K H a (bs.map V.bl) ∧ Q (.int (cntB k bs)) H
theorem countBK {X : Cx} {K : PySem.W.Frag} (hK : X.K = K) : MtR X "list.count" (rCntB K) := by
  subst hK
  intro pins s σ H x xs v us Q I rx r ⟨a, bs, k, ex, exs, hs, q⟩
  subst ex exs
  cases rx
  obtain ⟨u, rfl, ru⟩ := vals1 r
  cases ru
  obtain ⟨its, rv, pl, _⟩ := I.list hs
  cases bools_vals rv
  refine count_list_bools (hp := s.heap) (xs := bs.map PyData.bool) pl.isList (reads_bools bs) (List.all_eq_true.mpr fun y hy => ?_) ?_
  · obtain ⟨b, _, rfl⟩ := List.mem_map.mp hy
    rfl
  · rw [cnt_in]
    exact ⟨.int (cntB k bs), H, I.tok _, ⟨_, rfl⟩, q⟩
def ixB (xs : List Bool) (y : Bool) : M Int := if y ∈ xs then .ok ((xs.findIdx (· == y) : Nat) : Int) else bad
theorem wp_ixB {a : Type} {Q : a → Prop} {E : String → Prop} {xs : List Bool} {y : Bool} {k : Int → M a} (h : wp (ixB xs y >>= k) Q E) : ∃ j, xs.findIdx (· == y) = j ∧ xs[j]? = some y ∧ (∀ (m : Nat) z, m < j → xs[m]? = some z → z ≠ y) ∧ wp (k (j : Int)) Q E := by
  unfold ixB at h
  by_cases hm : y ∈ xs
  · rw [if_pos hm] at h
    have hlt : xs.findIdx (· == y) < xs.length := List.findIdx_lt_length_of_exists ⟨y, hm, by simp⟩
    refine ⟨_, rfl, ?_, fun m z hmj hz e => ?_, h⟩
    · rw [List.getElem?_eq_getElem hlt]
      have := List.findIdx_getElem (w := hlt)
      rw [eq_of_beq this]
    · have := List.not_of_lt_findIdx hmj
      obtain ⟨hl, hz⟩ := List.getElem?_eq_some_iff.mp hz
      rw [hz, e] at this
      simp at this
  · rw [if_neg hm] at h; exact h.elim
theorem all_flat_bl : ∀ xs : List Bool, (xs.map V.bl).all flatV = true
  | [] => rfl
  | x :: xs => by rw [List.map_cons, List.all_cons, all_flat_bl xs]; rfl
theorem bl_noeq {xs : List Bool} {y : Bool} {j : Nat} (h : ∀ (m : Nat) z, m < j → xs[m]? = some z → z ≠ y) : ∀ (m : Nat) (z' : V), m < j → (xs.map V.bl)[m]? = some z' → eqV z' (.bl y) = false := fun m z' hm hz => by
  rw [List.getElem?_map] at hz
  cases e : xs[m]? with
  | none => rw [e] at hz; cases hz
  | some z =>
    rw [e] at hz
    have hz : V.bl z = z' := Option.some.inj hz
    subst hz
    have := h m z hm e
    revert this
    cases z <;> cases y <;> intro this <;> first | rfl | exact (this rfl).elim
theorem bl_at {xs : List Bool} {y : Bool} {j : Nat} (h : xs[j]? = some y) : (xs.map V.bl)[j]? = some (.bl y) := by rw [List.getElem?_map, h]; rfl
theorem bl_eq {y : Bool} : eqV (.bl y) (.bl y) = true := by cases y <;> rfl
/-- x in xs, of data that are no scalars -/
def inD {a : Type} [DecidableEq a] (x : a) (xs : List a) : Prop := x ∈ xs
instance {a : Type} [DecidableEq a] (x : a) (xs : List a) : Decidable (inD x xs) := @List.instDecidableMemOfLawfulBEq a instBEqOfDecidableEq _ x xs
theorem iteDx {c A B : Prop} {i : Decidable c} (h1 : c → A) (h2 : ¬ c → B) : if @decide c i = true then A else B := @iteD c A B i h1 h2
theorem iteNx {c A B : Prop} {i : Decidable c} (h1 : c → B) (h2 : ¬ c → A) : if (!@decide c i) = true then A else B := @iteN c A B i h1 h2
theorem sl43 (a b c d : V) : ¬ (HT.sIx [a, b, c, d].length 0 none = 0 ∧ HT.sIx [a, b, c, d].length [a, b, c, d].length (some (3 : Int)) = [a, b, c, d].length) := fun h => absurd h.2 (by show ¬ (HT.sIx 4 4 (some (3 : Int)) = 4); decide)
theorem dgetD_S {β : Type} [Py β] {F H : Hp} {a : Addr} {kvs : List (Key × V)} {i : Str} {xs : List (Str × β)} {z : V} {y : β} (e : H a = some (.dK kvs)) (hr : RD F kvs xs) (hz : R F z y) : ∃ o, DGet H a (.str i) o ∧ R F (o.getD z) ((dGet xs i).getD y) := by
  refine ⟨valV kvs (.inr i), DGet.k (k := .inr i) e, ?_⟩
  rcases hr.get i with ⟨h1, h2⟩ | ⟨u, v, h1, h2, h3⟩
  · rw [h1, show valV kvs (.inr i) = none from h2]; exact hz
  · rw [h1, show valV kvs (.inr i) = some v from h2]; exact h3
end PG

set_option Elab.async false
set_option linter.all false
set_option maxRecDepth 100000
set_option maxHeartbeats 4000000
namespace PG
open PySem PySem.Spec PyProof.Rows L2
open PySem.W (T3 T4 Datum DatumOrd Holds HoldAll EachIs)
/-! ### a list of lists that are all ours: the outer cell and the inner ones, any number of them, behind the other cells -/
abbrev LCV := Addr × List V
def lcV (c : LCV) : Addr × HO := (c.1, .lst c.2)
def llC (p : Addr) (ps : List LCV) : List (Addr × HO) := (p, .lst (ps.map fun c => V.ref c.1)) :: ps.map lcV
/-- the inner lists stand for these -/
inductive LLR {a : Type} [Py a] (F : Hp) : List LCV → List (List a) → Prop
  | nil : LLR F [] []
  | cons {c : LCV} {xs : List a} {ps : List LCV} {p : List (List a)} : RL F c.2 xs → LLR F ps p → LLR F (c :: ps) (xs :: p)
section
variable {a : Type} [Py a] {F F' : Hp}
theorem LLR.mono {ps : List LCV} {p : List (List a)} (h : LLR F ps p) (s : Same F F') : LLR F' ps p := by
  induction h with
  | nil => exact .nil
  | cons h _ ih => exact .cons (h.mono s) ih
theorem LLR.len {ps : List LCV} {p : List (List a)} (h : LLR F ps p) : ps.length = p.length := by
  induction h with
  | nil => rfl
  | cons _ _ ih => rw [List.length_cons, List.length_cons, ih]
theorem LLR.got {ps : List LCV} {p : List (List a)} (h : LLR F ps p) : ∀ {j : Nat} {xs : List a}, p[j]? = some xs → ∃ c, ps[j]? = some c ∧ RL F c.2 xs := by
  induction h with
  | nil => intro j xs e; simp at e
  | @cons c ys ps p h _ ih =>
    intro j xs e
    cases j with
    | zero =>
      have e : ys = xs := Option.some.inj e
      subst e
      exact ⟨c, rfl, h⟩
    | succ j => exact ih e
theorem LLR.set {ps : List LCV} {p : List (List a)} (h : LLR F ps p) {w : List V} {xs : List a} (hw : RL F w xs) (q : Addr) : ∀ j : Nat, LLR F (ps.set j (q, w)) (p.set j xs) := by
  induction h with
  | nil => intro j; exact .nil
  | cons h hs ih =>
    intro j
    cases j with
    | zero => exact .cons hw hs
    | succ j => exact .cons h (ih j)
theorem LLR.snoc {ps : List LCV} {p : List (List a)} (h : LLR F ps p) {w : List V} {xs : List a} (hw : RL F w xs) (q : Addr) : LLR F (ps ++ [(q, w)]) (p ++ [xs]) := by
  induction h with
  | nil => exact .cons hw .nil
  | cons h _ ih => exact .cons h ih
end
section
variable {Z : Ent} {F H : Hp} {S : List (Addr × HO)} {p : Addr} {ps : List LCV} {c : LCV} {j : Nat}
theorem ref_set (hj : ps[j]? = some c) (w : List V) : ((ps.set j (c.1, w)).map fun c => V.ref c.1) = ps.map fun c => V.ref c.1 := by
  refine List.ext_getElem? fun i => ?_
  rw [List.getElem?_map, List.getElem?_map, List.getElem?_set]
  by_cases h : j = i
  · subst h
    rw [if_pos rfl, hj]
    rw [if_pos (List.getElem?_eq_some_iff.mp hj).1]
    rfl
  · rw [if_neg h]
theorem llC_at (hj : ps[j]? = some c) : (S ++ llC p ps)[S.length + 1 + j]? = some (c.1, .lst c.2) := by
  rw [List.getElem?_append_right (by omega)]
  show (llC p ps)[S.length + 1 + j - S.length]? = _
  rw [show S.length + 1 + j - S.length = j + 1 by omega]
  show (ps.map lcV)[j]? = _
  rw [List.getElem?_map, hj]
  rfl
theorem llC_top : (S ++ llC p ps)[S.length]? = some (p, .lst (ps.map fun c => V.ref c.1)) := by
  rw [List.getElem?_append_right (Nat.le_refl _), Nat.sub_self]
  rfl
theorem Ow.llAt (O : Ow Z F (S ++ llC p ps) H) (hj : ps[j]? = some c) : H c.1 = some (.lst c.2) := O.at _ (llC_at hj)
theorem Ow.llTop (O : Ow Z F (S ++ llC p ps) H) : H p = some (.lst (ps.map fun c => V.ref c.1)) := O.at _ llC_top
/-- one of the inner lists becomes w -/
theorem Ow.llSet (O : Ow Z F (S ++ llC p ps) H) (hj : ps[j]? = some c) (w : List V) : Ow Z F (S ++ llC p (ps.set j (c.1, w))) (upd H c.1 (.lst w)) := by
  have z := O.set (S.length + 1 + j) (.lst w) (llC_at hj)
  have e : (S ++ llC p ps).set (S.length + 1 + j) (c.1, .lst w) = S ++ llC p (ps.set j (c.1, w)) := by
    rw [List.set_append_right _ _ (by omega), show S.length + 1 + j - S.length = j + 1 by omega]
    unfold llC
    rw [ref_set hj w, List.set_cons_succ, List.map_set]
    rfl
  rw [e] at z
  exact z
/-- a new inner list goes behind -/
theorem Ow.llPush {q : Addr} {w : List V} (O : Ow Z F ((q, .lst w) :: (S ++ llC p ps)) H) : Ow Z F (S ++ llC p (ps ++ [(q, w)])) (upd H p (.lst ((ps.map fun c => V.ref c.1) ++ [V.ref q]))) := by
  have z := O.set (S.length + 1) (.lst ((ps.map fun c => V.ref c.1) ++ [V.ref q])) (show ((q, HO.lst w) :: (S ++ llC p ps))[S.length + 1]? = some (p, _) from llC_top)
  refine z.perm ?_
  have e : ((q, HO.lst w) :: (S ++ llC p ps)).set (S.length + 1) (p, .lst ((ps.map fun c => V.ref c.1) ++ [V.ref q])) = (q, HO.lst w) :: (S ++ ((p, .lst ((ps.map fun c => V.ref c.1) ++ [V.ref q])) :: ps.map lcV)) := by
    rw [List.set_cons_succ, List.set_append_right _ _ (Nat.le_refl _), Nat.sub_self]
    rfl
  rw [e]
  unfold llC
  rw [List.map_append, List.map_append]
  show ((q, HO.lst w) :: (S ++ ((p, HO.lst ((ps.map fun c => V.ref c.1) ++ [V.ref q])) :: ps.map lcV))).Perm (S ++ ((p, HO.lst ((ps.map fun c => V.ref c.1) ++ [V.ref q])) :: (ps.map lcV ++ [(q, HO.lst w)])))
  have e2 : S ++ ((p, HO.lst ((ps.map fun c => V.ref c.1) ++ [V.ref q])) :: (ps.map lcV ++ [(q, HO.lst w)])) = (S ++ ((p, HO.lst ((ps.map fun c => V.ref c.1) ++ [V.ref q])) :: ps.map lcV)) ++ [(q, HO.lst w)] := by
    rw [List.append_assoc, List.cons_append]
  rw [e2]
  exact (List.perm_append_singleton _ _).symm
/-- an empty one: a new outer list -/
theorem Ow.llNew (O : Ow Z F ((p, .lst []) :: S) H) : Ow Z F (S ++ llC p []) H := O.perm (List.perm_append_singleton _ _).symm
theorem Ow.frzM {A B : List (Addr × HO)} {b : Addr} {o : HO} (O : Ow Z F (A ++ (b, o) :: B) H) (hz : Z.H b = none) : ∃ F', Ow Z F' (A ++ B) H ∧ Same F F' ∧ F' b = some o := by
  have e : (A ++ (b, o) :: B)[A.length]? = some (b, o) := by rw [List.getElem?_append_right (Nat.le_refl _), Nat.sub_self]; rfl
  obtain ⟨F', O', s, h⟩ := O.frzE A.length e hz
  rw [List.eraseIdx_append_of_length_le (Nat.le_refl _), Nat.sub_self] at O'
  exact ⟨F', O', s, h⟩
theorem Ow.frzAll {a : Type} [Py a] : ∀ {ps : List LCV} {F : Hp} {A : List (Addr × HO)} {xs : List (List a)}, Ow Z F (A ++ ps.map lcV) H → (∀ c ∈ ps, Z.H c.1 = none) → LLR F ps xs →
    ∃ F', Ow Z F' A H ∧ Same F F' ∧ RL F' (ps.map fun c => V.ref c.1) xs
  | [], F, A, xs, O, _, r => by
    cases r
    rw [List.map_nil, List.append_nil] at O
    exact ⟨F, O, Same.refl _, RL.nil⟩
  | c :: ps, F, A, xs, O, hz, r => by
    cases r with
    | @cons _ x _ q h1 h2 =>
      obtain ⟨F1, O1, s1, g1⟩ := Ow.frzM (A := A) (B := ps.map lcV) (b := c.1) (o := .lst c.2) O (hz c List.mem_cons_self)
      obtain ⟨F2, O2, s2, r2⟩ := Ow.frzAll O1 (fun d hd => hz d (List.mem_cons_of_mem _ hd)) (h2.mono s1)
      exact ⟨F2, O2, s1.trans s2, RL.cons (R.lst (s2 _ _ g1) ((h1.mono s1).mono s2)) r2⟩
/-- all of it is read alone from now on -/
theorem Ow.llFrz {a : Type} [Py a] {xs : List (List a)} (O : Ow Z F (S ++ llC p ps) H) (hp : Z.H p = none) (hz : ∀ c ∈ ps, Z.H c.1 = none) (r : LLR F ps xs) : ∃ F', Ow Z F' S H ∧ Same F F' ∧ R F' (.ref p) xs := by
  obtain ⟨F1, O1, s1, g1⟩ := Ow.frzM (A := S) (B := ps.map lcV) (b := p) (o := .lst (ps.map fun c => V.ref c.1)) O hp
  obtain ⟨F2, O2, s2, r2⟩ := Ow.frzAll O1 hz (r.mono s1)
  exact ⟨F2, O2, s1.trans s2, R.lst (s2 _ _ g1) r2⟩
end
section
variable {a : Type} [Py a] {F : Hp}
theorem LLR.atI {ps : List LCV} {p : List (List a)} (h : LLR F ps p) {i : Int} {y : List a} (e : L2.atI p i = some y) :
    ∃ j c, L2.atI (ps.map fun c => V.ref c.1) i = some (V.ref c.1) ∧ ps[j]? = some c ∧ RL F c.2 y ∧ ixN p.length i = some j := by
  unfold L2.atI at e
  cases hx : ixN p.length i with
  | none => rw [hx] at e; exact nomatch e
  | some j =>
    rw [hx] at e
    have e : p[j]? = some y := e
    obtain ⟨c, hc, hr⟩ := h.got e
    refine ⟨j, c, ?_, hc, hr, rfl⟩
    unfold L2.atI
    rw [List.length_map, h.len, hx]
    show (ps.map fun c => V.ref c.1)[j]? = _
    rw [List.getElem?_map, hc]
    rfl
theorem zs_set {H : Hp} {ps : List LCV} {c : LCV} {j : Nat} (h : ∀ d ∈ ps, H d.1 = none) (hj : ps[j]? = some c) (w : List V) : ∀ d ∈ ps.set j (c.1, w), H d.1 = none := fun d hd => by
  rcases List.mem_or_eq_of_mem_set hd with hd | hd
  · exact h d hd
  · rw [hd]; exact h c (List.mem_of_getElem? hj)
theorem zs_snoc {H : Hp} {ps : List LCV} {q : Addr} {w : List V} (h : ∀ d ∈ ps, H d.1 = none) (hq : H q = none) : ∀ d ∈ ps ++ [(q, w)], H d.1 = none := fun d hd => by
  rcases List.mem_append.mp hd with hd | hd
  · exact h d hd
  · rw [List.mem_singleton.mp hd]; exact hq
end
/-! ### a list so many times -/
def repL {a : Type} (k : Int) (xs : List a) : List a := (List.replicate k.toNat xs).flatten
theorem RL.rep {a : Type} [Py a] {H : Hp} {vs : List V} {xs : List a} (h : RL H vs xs) (k : Int) : RL H (repL k vs) (repL k xs) := by
  unfold repL
  induction k.toNat with
  | zero => exact RL.nil
  | succ n ih =>
    rw [List.replicate_succ, List.replicate_succ, List.flatten_cons, List.flatten_cons]
    exact RL.app h ih
def CRep (n : Nat) (k : Int) : Prop := -(2 ^ 63) ≤ k ∧ k < 2 ^ 63 ∧ n * k.toNat < 16777216
instance (n : Nat) (k : Int) : Decidable (CRep n k) := by unfold CRep; infer_instance
theorem R.tpN {a : Type} [Py a] {F : Hp} {p : Addr} {vs : List V} {xs : List a} (h : F p = some (.tup vs)) (r : RL F vs xs) : R F (.ref p) (Tp.mk xs) := by
  show Rep F (.ref p) (.tuple (xs.map Py.toD))
  exact .tup h r
/-! ### what is walked, K told outright (for comprehensions within one another) -/
section
variable {X : Cx} {K : PySem.W.Frag} {tg : Expr}
theorem piListK (h : X.K = K) {l : Expr} {tl : TE} (hl : PE X l tl) : PI X tg l (iList K tl) := by rw [← h]; exact pi_list hl
theorem piTupK (h : X.K = K) {l : Expr} {tl : TE} (hl : PE X l tl) : PI X tg l (iTup K tl) := by rw [← h]; exact pi_tup hl
theorem piEnumK (h : X.K = K) {e : Expr} {ta : TA} {p pos tpos : Pos} {elts : List Expr} {kk : Nat} (hg : Gl X "enumerate") (hm : X.mg "enumerate" = none) (ha : PA X [e] ta) (hs : starEach [e] X.env = [(false, eval e X.env)] := by rfl) :
    PI X (.Tuple elts kk tpos) (.Call (.Name "enumerate" p) [e] [] pos) (iEnum K ta) := by rw [← h]; exact pi_enum hg hm ha hs
theorem piZipK (h : X.K = K) {e e2 : Expr} {ta : TA} {p pos tpos : Pos} {elts : List Expr} {kk : Nat} (hg : Gl X "zip") (hm : X.mg "zip" = none) (ha : PA X [e, e2] ta)
    (hs : starEach [e, e2] X.env = (false, eval e X.env) :: starEach [e2] X.env := by rfl) (hpl : (backTo pos (starEach [e2] X.env)).any (·.1) = false := by rfl) :
    PI X (.Tuple elts kk tpos) (.Call (.Name "zip" p) [e, e2] [] pos) (iZip K ta) := by rw [← h]; exact pi_zip hg hm ha hs hpl
end
end PG

set_option Elab.async false
set_option linter.all false
set_option maxRecDepth 100000
set_option maxHeartbeats 4000000
/-! Plain mathematics over the monad M: no program in sight. -/
namespace PG
open PySem L2
open PySem.W (T3 T4 Datum DatumOrd)
section
variable {a b s i : Type}
theorem ok_b (x : a) (k : a → M b) : (Except.ok x >>= k) = k x := rfl
theorem okP_b (x : a) (k : a → M b) : ((Except.ok x : M a) >>= k) = k x := rfl
theorem ret_b (x : a) (k : a → M b) : (ret x >>= k) = k x := rfl
theorem chk_ok {c : Prop} [Decidable c] (h : c) : chk c = .ok () := by unfold chk; rw [if_pos h]
theorem chk_b {c : Prop} [Decidable c] (h : c) (k : Unit → M b) : (chk c >>= k) = k () := by rw [chk_ok h]; rfl
theorem opt_b {o : Option a} {x : a} (h : o = some x) (k : a → M b) : (opt o >>= k) = k x := by rw [h]; rfl
theorem bind_ok {m : M a} {x : a} (h : m = .ok x) (k : a → M b) : (m >>= k) = k x := by rw [h]; rfl
theorem appL_ok {xs : List a} {y : a} (h : xs.length < 16777216) : appL xs y = .ok (xs ++ [y]) := by unfold appL; rw [if_pos h]
theorem ixN_nat {n : Nat} {j : Int} (h0 : 0 ≤ j) (h : j < n) : ixN n j = some j.toNat := by unfold ixN; rw [if_pos h0, if_pos h]
theorem atI_of {xs : List a} {j : Int} {x : a} (h0 : 0 ≤ j) (h : xs[j.toNat]? = some x) : L2.atI xs j = some x := by
  have hl := (List.getElem?_eq_some_iff.mp h).1
  unfold L2.atI
  rw [ixN_nat h0 (by omega)]
  exact h
theorem atI_some {xs : List a} {j : Int} (h0 : 0 ≤ j) (h : j < xs.length) : ∃ x, L2.atI xs j = some x ∧ xs[j.toNat]? = some x := by
  have hl : j.toNat < xs.length := by omega
  exact ⟨xs[j.toNat], atI_of h0 (List.getElem?_eq_getElem hl), List.getElem?_eq_getElem hl⟩
theorem setI_ok {xs : List a} {j : Int} {y : a} (h0 : 0 ≤ j) (h : j < xs.length) : setI xs j y = .ok (xs.set j.toNat y) := by unfold setI; rw [ixN_nat h0 h]
theorem popI_ok {xs : List a} {j : Int} {y : a} (h0 : 0 ≤ j) (h : xs[j.toNat]? = some y) (hl : xs.length < 16777216) : popI xs j = .ok (y, xs.eraseIdx j.toNat) := by
  have h1 := (List.getElem?_eq_some_iff.mp h).1
  unfold popI
  rw [if_pos hl, ixN_nat h0 (by omega)]
  show (match xs[j.toNat]? with
    | some y => (Except.ok (y, xs.eraseIdx j.toNat) : M _)
    | none => bad) = _
  rw [h]
/-- loops by an invariant over the items gone through -/
theorem loopN_inv {f : i → s → M s} (P : List i → s → Prop) : ∀ {xs pre : List i} {x : s}, P pre x → (∀ pre y ys x, xs ++ [] = xs → P pre x → (∃ q, q ++ y :: ys = pre ++ y :: ys) → ∃ x', f y x = .ok x' ∧ P (pre ++ [y]) x') → ∃ x', loopN f xs x = .ok x' ∧ P (pre ++ xs) x' := by
  intro xs
  induction xs with
  | nil => intro pre x h _; exact ⟨x, rfl, by rw [List.append_nil]; exact h⟩
  | cons y ys ih =>
    intro pre x h hs
    obtain ⟨x1, e1, h1⟩ := hs pre y ys x (List.append_nil _) h ⟨pre, rfl⟩
    obtain ⟨x2, e2, h2⟩ := ih (pre := pre ++ [y]) h1 fun pre y ys x _ hp hq => hs pre y ys x (List.append_nil _) hp hq
    refine ⟨x2, ?_, by rw [List.append_assoc] at h2; exact h2⟩
    show (f y x >>= fun x' => loopN f ys x') = _
    rw [e1]
    exact e2
/-- .. with what is known of the items -/
theorem loopN_run {f : i → s → M s} {all : List i} (P : List i → s → Prop) {x : s} (h : P [] x) (hs : ∀ pre y post x, all = pre ++ y :: post → P pre x → ∃ x', f y x = .ok x' ∧ P (pre ++ [y]) x') : ∃ x', loopN f all x = .ok x' ∧ P all x' := by
  have go : ∀ (xs pre : List i) (x : s), all = pre ++ xs → P pre x → ∃ x', loopN f xs x = .ok x' ∧ P (pre ++ xs) x' := by
    intro xs
    induction xs with
    | nil => intro pre x _ h; exact ⟨x, rfl, by rw [List.append_nil]; exact h⟩
    | cons y ys ih =>
      intro pre x e h
      obtain ⟨x1, e1, h1⟩ := hs pre y ys x e h
      obtain ⟨x2, e2, h2⟩ := ih (pre ++ [y]) x1 (by rw [List.append_assoc]; exact e) h1
      refine ⟨x2, ?_, by rw [List.append_assoc] at h2; exact h2⟩
      show (f y x >>= fun x' => loopN f ys x') = _
      rw [e1]
      exact e2
  exact go all [] x rfl h
/-- a loop that goes on at each item -/
theorem loopM_run {r : Type} {f : i → s → M (Fl s r)} {all : List i} (P : List i → s → Prop) {x : s} (h : P [] x) (hs : ∀ pre y post x, all = pre ++ y :: post → P pre x → ∃ x', f y x = .ok (.nx x') ∧ P (pre ++ [y]) x') : ∃ x', loopM f all x = .ok (.nx x') ∧ P all x' := by
  have go : ∀ (xs pre : List i) (x : s), all = pre ++ xs → P pre x → ∃ x', loopM f xs x = .ok (.nx x') ∧ P (pre ++ xs) x' := by
    intro xs
    induction xs with
    | nil => intro pre x _ h; exact ⟨x, rfl, by rw [List.append_nil]; exact h⟩
    | cons y ys ih =>
      intro pre x e h
      obtain ⟨x1, e1, h1⟩ := hs pre y ys x e h
      obtain ⟨x2, e2, h2⟩ := ih (pre ++ [y]) x1 (by rw [List.append_assoc]; exact e) h1
      refine ⟨x2, ?_, by rw [List.append_assoc] at h2; exact h2⟩
      show (f y x >>= fun q => match q with
        | .nx x' => loopM f ys x'
        | .rt z => .ok (.rt z)) = _
      rw [e1]
      exact e2
  exact go all [] x rfl h
/-- .. that has no state -/
theorem loopM_all {r : Type} {f : i → Unit → M (Fl Unit r)} {all : List i} (hs : ∀ y ∈ all, f y () = .ok (.nx ())) : loopM f all () = .ok (.nx ()) := by
  obtain ⟨x, e, _⟩ := loopM_run (f := f) (all := all) (fun _ _ => True) (x := ()) trivial fun pre y post x e _ => ⟨(), by cases x; exact hs y (by rw [e]; simp), trivial⟩
  exact e
theorem compX_run {c : Type} {f : i → s → M (Option c × s)} {all : List i} (P : List i → List c → s → Prop) {x : s} (h : P [] [] x)
    (hs : ∀ pre y post acc x, all = pre ++ y :: post → P pre acc x → ∃ o x', f y x = .ok (o, x') ∧ P (pre ++ [y]) (match o with
      | some z => acc ++ [z]
      | none => acc) x') : ∃ acc x', compX f all [] x = .ok (acc, x') ∧ P all acc x' := by
  have go : ∀ (xs pre : List i) (acc : List c) (x : s), all = pre ++ xs → P pre acc x → ∃ acc' x', compX f xs acc x = .ok (acc', x') ∧ P (pre ++ xs) acc' x' := by
    intro xs
    induction xs with
    | nil => intro pre acc x _ h; exact ⟨acc, x, rfl, by rw [List.append_nil]; exact h⟩
    | cons y ys ih =>
      intro pre acc x e h
      obtain ⟨o, x1, e1, h1⟩ := hs pre y ys acc x e h
      obtain ⟨acc2, x2, e2, h2⟩ := ih (pre ++ [y]) _ x1 (by rw [List.append_assoc]; exact e) h1
      refine ⟨acc2, x2, ?_, by rw [List.append_assoc] at h2; exact h2⟩
      show (nox (f y x) >>= fun p => compX f ys (match p.1 with
        | some z => acc ++ [z]
        | none => acc) p.2) = _
      rw [e1]
      exact e2
  exact go all [] [] x rfl h
theorem compS_run {c : Type} {f : i → s → M (Option c × s)} {all : List i} (hl : all.length < 16777216) (P : List i → List c → s → Prop) {x : s} (h : P [] [] x)
    (hs : ∀ pre y post acc x, all = pre ++ y :: post → P pre acc x → ∃ o x', f y x = .ok (o, x') ∧ P (pre ++ [y]) (match o with
      | some z => acc ++ [z]
      | none => acc) x') : ∃ acc x', compS f all x = .ok (acc, x') ∧ P all acc x' := by
  unfold compS
  rw [chk_b hl]
  exact compX_run P h hs
/-- a plain map with a test -/
theorem compS_pure {c : Type} {f : i → Unit → M (Option c × Unit)} {all : List i} (g : i → Option c) (hl : all.length < 16777216) (hs : ∀ y ∈ all, f y () = .ok (g y, ())) : compS f all () = .ok (all.filterMap g, ()) := by
  obtain ⟨acc, x, e, h⟩ := compS_run (f := f) (all := all) hl (fun pre acc _ => acc = pre.filterMap g) (x := ()) rfl fun pre y post acc x e h => by
    refine ⟨g y, (), by cases x; exact hs y (by rw [e]; simp), ?_⟩
    rw [h, List.filterMap_append]
    cases e2 : g y with
    | none => simp [e2]
    | some z => simp [e2]
  rw [e, h]
end

/-! ### sorted lists -/
section
variable {a : Type}
/-- two sorted lists of the same things are one -/
theorem perm_sorted_eq {le : a → a → Bool} (anti : ∀ x y, le x y = true → le y x = true → x = y) : ∀ {xs ys : List a}, xs.Perm ys → xs.Pairwise (fun x y => le x y = true) → ys.Pairwise (fun x y => le x y = true) → xs = ys := by
  intro xs
  induction xs with
  | nil => intro ys h _ _; exact (List.nil_perm.mp h).symm
  | cons x xs ih =>
    intro ys h hx hy
    cases ys with
    | nil => exact absurd h.length_eq (by simp)
    | cons y ys =>
      rw [List.pairwise_cons] at hx hy
      have e : x = y := by
        have m1 : x ∈ y :: ys := h.mem_iff.mp List.mem_cons_self
        have m2 : y ∈ x :: xs := h.mem_iff.mpr List.mem_cons_self
        rcases List.mem_cons.mp m1 with r | r
        · exact r
        · rcases List.mem_cons.mp m2 with q | q
          · exact q.symm
          · exact anti x y (hx.1 y q) (hy.1 x r)
      subst e
      rw [ih (List.Perm.cons_inv h) hx.2 hy.2]
class LeOk (a : Type) [DecidableEq a] [DatumOrd a] : Prop where
  tr : ∀ x y z : a, leT x y = true → leT y z = true → leT x z = true
  tot : ∀ x y : a, (leT x y || leT y x) = true
  anti : ∀ x y : a, leT x y = true → leT y x = true → x = y
theorem leT_int (x y : Int) : leT x y = decide (x ≤ y) := by
  show (!decide (y < x)) = decide (x ≤ y)
  by_cases h : y < x
  · have : ¬ x ≤ y := by omega
    simp [h, this]
  · have : x ≤ y := by omega
    simp [h, this]
instance : LeOk Int where
  tr x y z h1 h2 := by
    rw [leT_int, decide_eq_true_eq] at h1 h2 ⊢
    omega
  tot x y := by
    rw [leT_int, leT_int, Bool.or_eq_true, decide_eq_true_eq, decide_eq_true_eq]
    omega
  anti x y h1 h2 := by
    rw [leT_int, decide_eq_true_eq] at h1 h2
    omega
theorem leT_p (x y : Int × Int) : leT x y = decide (x.1 < y.1 ∨ (x.1 = y.1 ∧ x.2 ≤ y.2)) := by
  show (!(if y.1 = x.1 then decide (y.2 < x.2) else decide (y.1 < x.1))) = _
  by_cases h : y.1 = x.1
  · rw [if_pos h]
    by_cases h2 : y.2 < x.2
    · have : ¬ (x.1 < y.1 ∨ (x.1 = y.1 ∧ x.2 ≤ y.2)) := by omega
      simp [h2, this]
    · have : (x.1 < y.1 ∨ (x.1 = y.1 ∧ x.2 ≤ y.2)) := by omega
      simp [h2, this]
  · rw [if_neg h]
    by_cases h2 : y.1 < x.1
    · have : ¬ (x.1 < y.1 ∨ (x.1 = y.1 ∧ x.2 ≤ y.2)) := by omega
      simp [h2, this]
    · have : (x.1 < y.1 ∨ (x.1 = y.1 ∧ x.2 ≤ y.2)) := by omega
      simp [h2, this]
instance : LeOk (Int × Int) where
  tr x y z h1 h2 := by
    rw [leT_p, decide_eq_true_eq] at h1 h2 ⊢
    omega
  tot x y := by
    rw [leT_p, leT_p, Bool.or_eq_true, decide_eq_true_eq, decide_eq_true_eq]
    omega
  anti x y h1 h2 := by
    rw [leT_p, decide_eq_true_eq] at h1 h2
    exact Prod.ext (by omega) (by omega)
theorem leT_3 (x y : T3 Int Int Int) : leT x y = decide (x.a < y.a ∨ (x.a = y.a ∧ (x.b < y.b ∨ (x.b = y.b ∧ x.c ≤ y.c)))) := by
  show (!DatumOrd.lt y x) = _
  have e : DatumOrd.lt y x = decide (y.a < x.a ∨ (y.a = x.a ∧ (y.b < x.b ∨ (y.b = x.b ∧ y.c < x.c)))) := by
    rw [Bool.eq_iff_iff, decide_eq_true_eq]
    show (if y.a = x.a then (if y.b = x.b then decide (y.c < x.c) else decide (y.b < x.b)) else decide (y.a < x.a)) = true ↔ _
    by_cases h : y.a = x.a
    · rw [if_pos h]
      by_cases h2 : y.b = x.b
      · rw [if_pos h2, decide_eq_true_eq]; omega
      · rw [if_neg h2, decide_eq_true_eq]; omega
    · rw [if_neg h, decide_eq_true_eq]; omega
  rw [e, Bool.eq_iff_iff, Bool.not_eq_true', decide_eq_false_iff_not, decide_eq_true_eq]
  omega
instance : LeOk (T3 Int Int Int) where
  tr x y z h1 h2 := by
    rw [leT_3, decide_eq_true_eq] at h1 h2 ⊢
    omega
  tot x y := by
    rw [leT_3, leT_3, Bool.or_eq_true, decide_eq_true_eq, decide_eq_true_eq]
    omega
  anti x y h1 h2 := by
    rw [leT_3, decide_eq_true_eq] at h1 h2
    exact PySem.W.T3.same (by omega) (by omega) (by omega)
variable [DecidableEq a] [DatumOrd a] [LeOk a]
theorem sortT_perm (xs : List a) : (sortT xs).Perm xs := List.mergeSort_perm xs _
theorem sortT_sorted (xs : List a) : (sortT xs).Pairwise (fun x y => leT x y = true) := List.pairwise_mergeSort (fun x y z => LeOk.tr x y z) (fun x y => LeOk.tot x y) xs
theorem sortT_eq {xs ys : List a} (h : xs.Perm ys) : sortT xs = sortT ys :=
  perm_sorted_eq LeOk.anti ((sortT_perm xs).trans (h.trans (sortT_perm ys).symm)) (sortT_sorted xs) (sortT_sorted ys)
theorem sortT_id {xs : List a} (h : xs.Pairwise (fun x y => leT x y = true)) : sortT xs = xs := perm_sorted_eq LeOk.anti (sortT_perm xs) (sortT_sorted xs) h
theorem sortT_idem (xs : List a) : sortT (sortT xs) = sortT xs := sortT_id (sortT_sorted xs)
theorem sortT_len (xs : List a) : (sortT xs).length = xs.length := (sortT_perm xs).length_eq
theorem sortT_mem {xs : List a} {x : a} : x ∈ sortT xs ↔ x ∈ xs := (sortT_perm xs).mem_iff
end
/-! ### numbers -/
theorem cdivW {i j : Int} (h : 0 < j) (h2 : j ≤ 10 ^ 40) : CDivW i j := by
  have h3 : j.natAbs ≤ 10 ^ 40 := by omega
  exact wide_div (b := 200) h (Nat.lt_of_le_of_lt h3 (by decide)) (by decide) (by decide)
theorem cmulW {i j : Int} (h1 : i.natAbs < 2 ^ 100000) (h2 : j.natAbs < 2 ^ 100000) : CMulW i j := wide_mul h1 h2 (by decide) (by decide) (by decide)

theorem erase_perm {a : Type} : ∀ {l : List a} {j : Nat} (h : j < l.length), (l[j] :: l.eraseIdx j).Perm l
  | x :: l, 0, _ => List.Perm.refl _
  | x :: l, j + 1, h => by
    have h' : j < l.length := by simpa using h
    show (l[j] :: x :: l.eraseIdx j).Perm (x :: l)
    exact (List.Perm.swap _ _ _).trans (List.Perm.cons _ (erase_perm h'))

/-! ### trees -/
abbrev Tie := T3 Int Int Int
abbrev Tr := List Int × List Tie
def tieOf (p q c : Int) : Tie := if p ≤ q then ⟨p, q, c⟩ else ⟨q, p, c⟩
/-- place by place, each new one tied to one that is there -/
inductive Grown : List Int → List Tie → Prop
  | one (p : Int) : Grown [p] []
  | more {ps : List Int} {ts : List Tie} (q p c : Int) : Grown ps ts → q ∈ ps → p ∉ ps → Grown (ps ++ [p]) (ts ++ [tieOf p q c])
theorem tieOf_lt {p q c : Int} (h : p ≠ q) : (tieOf p q c).a < (tieOf p q c).b ∧ ((tieOf p q c).a = p ∧ (tieOf p q c).b = q ∨ (tieOf p q c).a = q ∧ (tieOf p q c).b = p) ∧ (tieOf p q c).c = c := by
  unfold tieOf
  by_cases h1 : p ≤ q
  · rw [if_pos h1]; exact ⟨by show p < q; omega, .inl ⟨rfl, rfl⟩, rfl⟩
  · rw [if_neg h1]; exact ⟨by show q < p; omega, .inr ⟨rfl, rfl⟩, rfl⟩
theorem Grown.in {ps : List Int} {ts : List Tie} (g : Grown ps ts) : ∀ t ∈ ts, t.a ∈ ps ∧ t.b ∈ ps ∧ t.a < t.b := by
  induction g with
  | one p => intro t h; cases h
  | @more ps ts q p c g hq hp ih =>
    intro t h
    rcases List.mem_append.mp h with h | h
    · obtain ⟨h1, h2, h3⟩ := ih t h
      exact ⟨List.mem_append_left _ h1, List.mem_append_left _ h2, h3⟩
    · have e := List.mem_singleton.mp h
      subst e
      have hpq : p ≠ q := fun e => hp (e ▸ hq)
      obtain ⟨l, hab, _⟩ := tieOf_lt (c := c) hpq
      have mp : p ∈ ps ++ [p] := by simp
      have mq : q ∈ ps ++ [p] := List.mem_append_left _ hq
      rcases hab with ⟨h1, h2⟩ | ⟨h1, h2⟩
      · exact ⟨by rw [h1]; exact mp, by rw [h2]; exact mq, l⟩
      · exact ⟨by rw [h1]; exact mq, by rw [h2]; exact mp, l⟩
theorem Grown.len {ps : List Int} {ts : List Tie} (g : Grown ps ts) : ps.length = ts.length + 1 := by
  induction g with
  | one p => rfl
  | more q p c g hq hp ih => rw [List.length_append, List.length_append, ih]; rfl
theorem Grown.nd {ps : List Int} {ts : List Tie} (g : Grown ps ts) : ps.Nodup := by
  induction g with
  | one p => simp
  | more q p c g hq hp ih => exact List.nodup_append.mpr ⟨ih, by simp, fun x hx y hy e => by rw [List.mem_singleton.mp hy] at e; exact hp (e ▸ hx)⟩
/-- a tree: its worths, its ties sorted -/
structure TreeOk (t : Tr) : Prop where
  ex : ∃ ps ts, Grown ps ts ∧ ps.Perm (rangeL 0 (t.1.length : Int)) ∧ t.2 = sortT ts
theorem TreeOk.pos {t : Tr} (h : TreeOk t) : 1 ≤ t.1.length := by
  obtain ⟨ps, ts, g, p, e⟩ := h.ex
  have h1 := p.length_eq
  rw [rangeL_length] at h1
  have := g.len
  omega
theorem TreeOk.len {t : Tr} (h : TreeOk t) : t.1.length = t.2.length + 1 := by
  obtain ⟨ps, ts, g, p, e⟩ := h.ex
  have h1 := p.length_eq
  rw [rangeL_length] at h1
  have := g.len
  rw [e, sortT_len]
  omega
theorem rangeL_mem' {lo hi x : Int} : x ∈ rangeL lo hi ↔ lo ≤ x ∧ x < hi := by
  unfold rangeL
  rw [List.mem_map]
  constructor
  · rintro ⟨j, hj, rfl⟩
    have := List.mem_range.mp hj
    omega
  · rintro ⟨h1, h2⟩
    exact ⟨(x - lo).toNat, List.mem_range.mpr (by omega), by omega⟩
theorem TreeOk.tie {t : Tr} (h : TreeOk t) : ∀ x ∈ t.2, 0 ≤ x.a ∧ x.a < x.b ∧ x.b < (t.1.length : Int) := by
  obtain ⟨ps, ts, g, p, e⟩ := h.ex
  intro x hx
  rw [e, sortT_mem] at hx
  obtain ⟨h1, h2, h3⟩ := g.in x hx
  have a1 := rangeL_mem'.mp (p.mem_iff.mp h1)
  have a2 := rangeL_mem'.mp (p.mem_iff.mp h2)
  exact ⟨a1.1, h3, a2.2⟩
theorem TreeOk.sorted {t : Tr} (h : TreeOk t) : sortT t.2 = t.2 := by
  obtain ⟨ps, ts, g, p, e⟩ := h.ex
  rw [e, sortT_idem]
theorem sort2 (x y : Int) : sortT [x, y] = if x ≤ y then [x, y] else [y, x] := by
  by_cases h : x ≤ y
  · rw [if_pos h]
    exact sortT_id (by simp [leT_int, h])
  · rw [if_neg h]
    have e : sortT [x, y] = sortT [y, x] := sortT_eq (List.Perm.swap _ _ _)
    rw [e]
    exact sortT_id (by simp [leT_int]; omega)

theorem fm_congr {a b : Type} {f g : a → Option b} : ∀ {l : List a}, (∀ x ∈ l, f x = g x) → l.filterMap f = l.filterMap g
  | [], _ => rfl
  | x :: l, h => by
    have h1 := h x List.mem_cons_self
    have h2 := fm_congr (l := l) fun y hy => h y (List.mem_cons_of_mem _ hy)
    rw [List.filterMap_cons, List.filterMap_cons, h1, h2]
end PG

set_option Elab.async false
set_option linter.all false
set_option maxRecDepth 100000
namespace G
open PySem PySem.Spec PyProof.Rows L2 PG
open PySem.W (T3 T4 Datum DatumOrd)
def top (i : Nat) : Stmt := PySem.Challenge.pw_everyseat_k11_no_rule.main.body.getD i (.Pass ⟨0, 0, 0, 0⟩)
structure Nb (mg : Str → Option Value) : Prop where
  b_ValueError : mg "ValueError" = none
  b_dict : mg "dict" = none
  b_enumerate : mg "enumerate" = none
  b_isinstance : mg "isinstance" = none
  b_len : mg "len" = none
  b_list : mg "list" = none
  b_max : mg "max" = none
  b_min : mg "min" = none
  b_range : mg "range" = none
  b_sorted : mg "sorted" = none
  c_MOST : ∃ u, mg "MOST" = some u ∧ RelV (.int 3) u
structure ExA (K : PySem.W.Frag) (mg : Str → Option Value) (C_SeatError C_NoPlace C_NoRule C_NoForm C_NoLength C_NoName C_NoOrder C_NoPaper C_NoText C_NoTie C_NoTree : Addr) : Prop where
  g_SeatError : mg "SeatError" = some (.ref C_SeatError)
  d_SeatError : PySem.W.hasDictIn K C_SeatError = true
  t_SeatError : PySem.W.typeIn K (.ref C_SeatError) = some (.type "type")
  n_SeatError : PySem.W.subIn K (.type "NoneType") (.ref C_SeatError) = some false
  b_SeatError : PySem.W.subIn K (.ref C_SeatError) (.type "BaseException") = some true
  s_SeatError_SeatError : PySem.W.subIn K (.ref C_SeatError) (.ref C_SeatError) = some true
  g_NoPlace : mg "NoPlace" = some (.ref C_NoPlace)
  d_NoPlace : PySem.W.hasDictIn K C_NoPlace = true
  t_NoPlace : PySem.W.typeIn K (.ref C_NoPlace) = some (.type "type")
  n_NoPlace : PySem.W.subIn K (.type "NoneType") (.ref C_NoPlace) = some false
  b_NoPlace : PySem.W.subIn K (.ref C_NoPlace) (.type "BaseException") = some true
  s_NoPlace_NoPlace : PySem.W.subIn K (.ref C_NoPlace) (.ref C_NoPlace) = some true
  g_NoRule : mg "NoRule" = some (.ref C_NoRule)
  d_NoRule : PySem.W.hasDictIn K C_NoRule = true
  t_NoRule : PySem.W.typeIn K (.ref C_NoRule) = some (.type "type")
  n_NoRule : PySem.W.subIn K (.type "NoneType") (.ref C_NoRule) = some false
  b_NoRule : PySem.W.subIn K (.ref C_NoRule) (.type "BaseException") = some true
  s_NoRule_NoRule : PySem.W.subIn K (.ref C_NoRule) (.ref C_NoRule) = some true
  g_NoForm : mg "NoForm" = some (.ref C_NoForm)
  d_NoForm : PySem.W.hasDictIn K C_NoForm = true
  t_NoForm : PySem.W.typeIn K (.ref C_NoForm) = some (.type "type")
  n_NoForm : PySem.W.subIn K (.type "NoneType") (.ref C_NoForm) = some false
  b_NoForm : PySem.W.subIn K (.ref C_NoForm) (.type "BaseException") = some true
  s_NoForm_NoForm : PySem.W.subIn K (.ref C_NoForm) (.ref C_NoForm) = some true
  g_NoLength : mg "NoLength" = some (.ref C_NoLength)
  d_NoLength : PySem.W.hasDictIn K C_NoLength = true
  t_NoLength : PySem.W.typeIn K (.ref C_NoLength) = some (.type "type")
  n_NoLength : PySem.W.subIn K (.type "NoneType") (.ref C_NoLength) = some false
  b_NoLength : PySem.W.subIn K (.ref C_NoLength) (.type "BaseException") = some true
  s_NoLength_NoLength : PySem.W.subIn K (.ref C_NoLength) (.ref C_NoLength) = some true
  g_NoName : mg "NoName" = some (.ref C_NoName)
  d_NoName : PySem.W.hasDictIn K C_NoName = true
  t_NoName : PySem.W.typeIn K (.ref C_NoName) = some (.type "type")
  n_NoName : PySem.W.subIn K (.type "NoneType") (.ref C_NoName) = some false
  b_NoName : PySem.W.subIn K (.ref C_NoName) (.type "BaseException") = some true
  s_NoName_NoName : PySem.W.subIn K (.ref C_NoName) (.ref C_NoName) = some true
  g_NoOrder : mg "NoOrder" = some (.ref C_NoOrder)
  d_NoOrder : PySem.W.hasDictIn K C_NoOrder = true
  t_NoOrder : PySem.W.typeIn K (.ref C_NoOrder) = some (.type "type")
  n_NoOrder : PySem.W.subIn K (.type "NoneType") (.ref C_NoOrder) = some false
  b_NoOrder : PySem.W.subIn K (.ref C_NoOrder) (.type "BaseException") = some true
  s_NoOrder_NoOrder : PySem.W.subIn K (.ref C_NoOrder) (.ref C_NoOrder) = some true
  g_NoPaper : mg "NoPaper" = some (.ref C_NoPaper)
  d_NoPaper : PySem.W.hasDictIn K C_NoPaper = true
  t_NoPaper : PySem.W.typeIn K (.ref C_NoPaper) = some (.type "type")
  n_NoPaper : PySem.W.subIn K (.type "NoneType") (.ref C_NoPaper) = some false
  b_NoPaper : PySem.W.subIn K (.ref C_NoPaper) (.type "BaseException") = some true
  s_NoPaper_NoPaper : PySem.W.subIn K (.ref C_NoPaper) (.ref C_NoPaper) = some true
  g_NoText : mg "NoText" = some (.ref C_NoText)
  d_NoText : PySem.W.hasDictIn K C_NoText = true
  t_NoText : PySem.W.typeIn K (.ref C_NoText) = some (.type "type")
  n_NoText : PySem.W.subIn K (.type "NoneType") (.ref C_NoText) = some false
  b_NoText : PySem.W.subIn K (.ref C_NoText) (.type "BaseException") = some true
  s_NoText_NoText : PySem.W.subIn K (.ref C_NoText) (.ref C_NoText) = some true
  g_NoTie : mg "NoTie" = some (.ref C_NoTie)
  d_NoTie : PySem.W.hasDictIn K C_NoTie = true
  t_NoTie : PySem.W.typeIn K (.ref C_NoTie) = some (.type "type")
  n_NoTie : PySem.W.subIn K (.type "NoneType") (.ref C_NoTie) = some false
  b_NoTie : PySem.W.subIn K (.ref C_NoTie) (.type "BaseException") = some true
  s_NoTie_NoTie : PySem.W.subIn K (.ref C_NoTie) (.ref C_NoTie) = some true
  g_NoTree : mg "NoTree" = some (.ref C_NoTree)
  d_NoTree : PySem.W.hasDictIn K C_NoTree = true
  t_NoTree : PySem.W.typeIn K (.ref C_NoTree) = some (.type "type")
  n_NoTree : PySem.W.subIn K (.type "NoneType") (.ref C_NoTree) = some false
  b_NoTree : PySem.W.subIn K (.ref C_NoTree) (.type "BaseException") = some true
  s_NoTree_NoTree : PySem.W.subIn K (.ref C_NoTree) (.ref C_NoTree) = some true
  e_NoPlace : ExcC K C_NoPlace
  v_NoPlace : PySem.W.subIn K (.ref C_NoPlace) (.type "ValueError") = some true
  s_NoPlace_SeatError : PySem.W.subIn K (.ref C_NoPlace) (.ref C_SeatError) = some true
  s_NoPlace_NoRule : PySem.W.subIn K (.ref C_NoPlace) (.ref C_NoRule) = some false
  s_NoPlace_NoForm : PySem.W.subIn K (.ref C_NoPlace) (.ref C_NoForm) = some false
  s_NoPlace_NoLength : PySem.W.subIn K (.ref C_NoPlace) (.ref C_NoLength) = some false
  s_NoPlace_NoName : PySem.W.subIn K (.ref C_NoPlace) (.ref C_NoName) = some false
  s_NoPlace_NoOrder : PySem.W.subIn K (.ref C_NoPlace) (.ref C_NoOrder) = some false
  s_NoPlace_NoPaper : PySem.W.subIn K (.ref C_NoPlace) (.ref C_NoPaper) = some false
  s_NoPlace_NoText : PySem.W.subIn K (.ref C_NoPlace) (.ref C_NoText) = some false
  s_NoPlace_NoTie : PySem.W.subIn K (.ref C_NoPlace) (.ref C_NoTie) = some false
  s_NoPlace_NoTree : PySem.W.subIn K (.ref C_NoPlace) (.ref C_NoTree) = some false
  e_NoRule : ExcC K C_NoRule
  v_NoRule : PySem.W.subIn K (.ref C_NoRule) (.type "ValueError") = some true
  s_NoRule_SeatError : PySem.W.subIn K (.ref C_NoRule) (.ref C_SeatError) = some true
  s_NoRule_NoPlace : PySem.W.subIn K (.ref C_NoRule) (.ref C_NoPlace) = some false
  s_NoRule_NoForm : PySem.W.subIn K (.ref C_NoRule) (.ref C_NoForm) = some false
  s_NoRule_NoLength : PySem.W.subIn K (.ref C_NoRule) (.ref C_NoLength) = some false
  s_NoRule_NoName : PySem.W.subIn K (.ref C_NoRule) (.ref C_NoName) = some false
  s_NoRule_NoOrder : PySem.W.subIn K (.ref C_NoRule) (.ref C_NoOrder) = some false
  s_NoRule_NoPaper : PySem.W.subIn K (.ref C_NoRule) (.ref C_NoPaper) = some false
  s_NoRule_NoText : PySem.W.subIn K (.ref C_NoRule) (.ref C_NoText) = some false
  s_NoRule_NoTie : PySem.W.subIn K (.ref C_NoRule) (.ref C_NoTie) = some false
  s_NoRule_NoTree : PySem.W.subIn K (.ref C_NoRule) (.ref C_NoTree) = some false
structure ExAll (K : PySem.W.Frag) (mg : Str → Option Value) : Prop where
  ex : ∃ C_SeatError C_NoPlace C_NoRule C_NoForm C_NoLength C_NoName C_NoOrder C_NoPaper C_NoText C_NoTie C_NoTree : Addr, ExA K mg C_SeatError C_NoPlace C_NoRule C_NoForm C_NoLength C_NoName C_NoOrder C_NoPaper C_NoText C_NoTie C_NoTree
section
variable {P : Program} {w : World} {K : PySem.W.Frag} {mg : Str → Option Value} {base : Heap}
abbrev s_may_stand : Stmt := top 14
theorem sc_may_stand : FnScope ["told", "leaves", "many"] ["told", "leaves", "many"] (defScope s_may_stand) := ⟨rfl, rfl, rfl, by decide +kernel, rfl, by decide +kernel, by decide +kernel⟩
def m_may_stand : Nat → Sm → (Tp Str) → Int → M (Bool)
  | 0, _, _, _ => bad
  | k_ + 1, x_told, x_leaves, x_many =>
    if (Sm.word x_told) = ("number" : Str) then (
    .ok true)
    else (
    if (Sm.word x_told) ∈ ([(("own" : Str), ("tie" : Str)).1, (("own" : Str), ("tie" : Str)).2]) then (
    .ok (decide ((Sm.word x_told) ∈ (Tp.l x_leaves))))
    else (
    if (Sm.word x_told) ∈ ([(("so" : Str), ("more" : Str)).1, (("so" : Str), ("more" : Str)).2]) then (
    if (Sm.word x_told) ∈ (Tp.l x_leaves) then (
    opt (Sm.int? x_told) >>= fun y63 =>
    if (0 : Int) ≤ y63 then (
    .ok (decide (y63 < x_many)))
    else (
    .ok false))
    else (
    .ok false))
    else (
    opt (Sm.two? x_told) >>= fun y70 =>
    m_may_stand k_ y70.1 x_leaves x_many >>= fun r80 =>
    if r80 = true then (
    opt (Sm.two? x_told) >>= fun y87 =>
    m_may_stand k_ y87.2 x_leaves x_many >>= fun r97 =>
    .ok r97)
    else (
    .ok false))))
def sp_may_stand (k_ : Nat) (mg : Str → Option Value) : Sp := fun vs H Q E => ∃ (F : Hp) (v_told : V) (x_told : Sm) (v_leaves : V) (x_leaves : (Tp Str)) (x_many : Int), vs = [v_told, v_leaves, V.int x_many] ∧ Pre F [] H ∧ R (a := Sm) F v_told x_told ∧ R (a := (Tp Str)) F v_leaves x_leaves ∧
  wp (m_may_stand k_ x_told x_leaves x_many) (fun r => ∀ (F' H' : Hp), Gr [] F H F' H' → Q (V.bl r) H')
  (fun n => ∀ (C : Addr) (H' : Hp), mg (Str.ofString n) = some (.ref C) → Kp [] H H' → E (.ref C) none H')
set_option maxHeartbeats 2000000 in
theorem ok_may_stand (nb : Nb mg) (D : Df K mg "may_stand" "may_stand" s_may_stand ["told", "leaves", "many"]) : ∀ k_ : Nat, Ca P w K mg base "may_stand" (k_ + 1) ["told", "leaves", "many"] (sp_may_stand k_ mg) := by
  intro k_
  induction k_ with
  | zero =>
    refine Ca.mk' D sc_may_stand (fun vs H Q E h => ?_) (fun q_ f_ cdv A outer s H vs Q E hr h => ?_)
    · obtain ⟨F, _, _, _, _, _, rfl, _⟩ := h
      rfl
    · obtain ⟨F, _, _, _, _, _, rfl, _, _, _, hk⟩ := h
      exact hk.elim
  | succ k_ ih_ =>
    have C_may_stand := ih_
    obtain ⟨fa_may_stand, fd_may_stand, G_may_stand, M_may_stand, K_may_stand, B_may_stand⟩ := C_may_stand.ex
    refine Ca.mk' D sc_may_stand (fun vs H Q E h => ?_) (fun q_ f_ cdv A outer s H vs Q E hr h => ?_)
    · obtain ⟨F, _, _, _, _, _, rfl, _⟩ := h
      rfl
    · obtain ⟨F, v_told, x_told, v_leaves, x_leaves, x_many, rfl, P0, f_told, f_leaves, hk⟩ := h
      have nd := sc_may_stand.nd
      have hu64 := hr.units
      have hu128 := hu128_of hr
      have O := P0.start
      refine ⟨_, (pss_cons (ps_if (pt_cmpR (op_eqT Str hu64) (pe_ix (ixTupK (K := K) rfl) (pv 0) pe_int (fun _ _ => rfl)) pe_str (nomark _)) (pss_one (ps_ret pe_bl)) pss_nil)
  (pss_cons (ps_if (pt_cmpR (op_inT Str hu64) (pe_ix (ixTupK (K := K) rfl) (pv 0) pe_int (fun _ _ => rfl)) (pe_tup (pa_cons pe_str (pa_cons pe_str pa_nil))) rfl) (pss_one (ps_ret (pe_cmpR (op_inT Str hu64) (pe_ix (ixTupK (K := K) rfl) (pv 0) pe_int (fun _ _ => rfl)) (pv 1) rfl))) pss_nil)
  (pss_cons (ps_if (pt_cmpR (op_inT Str hu64) (pe_ix (ixTupK (K := K) rfl) (pv 0) pe_int (fun _ _ => rfl)) (pe_tup (pa_cons pe_str (pa_cons pe_str pa_nil))) rfl) (pss_one (ps_ret (pe_and (pe_cmpR (op_inT Str hu64) (pe_ix (ixTupK (K := K) rfl) (pv 0) pe_int (fun _ _ => rfl)) (pv 1) rfl) (pe_one (pe_chain op_le op_lt pe_int (pe_ix (ixTupK (K := K) rfl) (pv 0) pe_int (fun _ _ => rfl)) (pv 2)))))) pss_nil)
  (pss_one (ps_ret (pe_and (pe_call G_may_stand (hr.mono (by omega)) rfl M_may_stand K_may_stand B_may_stand .nil (passes_call (takes_of rfl rfl rfl rfl) fun _ _ _ _ h => h) (pa_cons (pe_ix (ixTupK (K := K) rfl) (pv 0) pe_int (fun _ _ => rfl)) (pa_cons (pv 1) (pa_cons (pv 2) pa_nil)))) (pe_one (pe_call G_may_stand (hr.mono (by omega)) rfl M_may_stand K_may_stand B_may_stand .nil (passes_call (takes_of rfl rfl rfl rfl) fun _ _ _ _ h => h) (pa_cons (pe_ix (ixTupK (K := K) rfl) (pv 0) pe_int (fun _ _ => rfl)) (pa_cons (pv 1) (pa_cons (pv 2) pa_nil))))))))))), ?_⟩
      obtain ⟨p1, w2, e3, h4⟩ := R.sm_ f_told
      cases e3
      refine ⟨_, rfl, _, _, _, _, rfl, rfl, (SqTF O.s h4), (atI0 _ _), _, _, R.str, R.str, _, rfl, ?_⟩
      refine iteD (fun q5 => ?_) (fun q5 => ?_)
      · have hk := wp_if hk q5
        exact hk _ _  O.g 
      · have hk := wp_el hk q5
        obtain ⟨p6, w7, e8, h9⟩ := R.sm_ f_told
        cases e8
        refine ⟨_, rfl, _, _, _, _, rfl, rfl, (SqTF O.s h9), (atI0 _ _), (by show 2 ≤ sizeLine; decide), fun p10 hp11 => ?_⟩
        obtain ⟨F12, O13, S14, h15⟩ := O.putE hp11 (.tup [V.str ("own" : Str), V.str ("tie" : Str)])
        have f_told := f_told.mono S14
        have f_leaves := f_leaves.mono S14
        have h4 := S14 _ _ h4
        have h9 := S14 _ _ h9
        have h16 : R (a := (Str × Str)) F12 (.ref p10) (("own" : Str), ("tie" : Str)) := R.t2 h15 R.str R.str
        obtain ⟨p17, v20, v21, e18, h19, r22, r23⟩ := R.t2_ h16
        cases e18
        obtain rfl := R.str_ r22
        obtain rfl := R.str_ r23
        refine ⟨_, _, _, _, R.str, rfl, (.inr (O13.s _ _ h19)), (RL.mono (RL.cons R.str (RL.cons R.str RL.nil)) O13.s), _, rfl, ?_⟩
        refine iteD (fun q24 => ?_) (fun q24 => ?_)
        · have hk := wp_if hk q24
          obtain ⟨p25, w26, e27, h28⟩ := R.sm_ f_told
          cases e27
          obtain ⟨p29, w30, e31, h32, hl33⟩ := R.tp_ f_leaves
          cases e31
          refine ⟨_, rfl, _, _, _, _, rfl, rfl, (SqTF O13.s h28), (atI0 _ _), _, rfl, _, _, _, _, R.str, rfl, (.inr (O13.s _ _ h32)), (RL.mono (hl33) O13.s), ?_⟩
          exact hk _ _  O13.g 
        · have hk := wp_el hk q24
          obtain ⟨p34, w35, e36, h37⟩ := R.sm_ f_told
          cases e36
          refine ⟨_, rfl, _, _, _, _, rfl, rfl, (SqTF O13.s h37), (atI0 _ _), (by show 2 ≤ sizeLine; decide), fun p38 hp39 => ?_⟩
          obtain ⟨F40, O41, S42, h43⟩ := O13.putE hp39 (.tup [V.str ("so" : Str), V.str ("more" : Str)])
          have f_told := f_told.mono S42
          have f_leaves := f_leaves.mono S42
          have h4 := S42 _ _ h4
          have h9 := S42 _ _ h9
          have h16 := h16.mono S42
          have h19 := S42 _ _ h19
          have h37 := S42 _ _ h37
          have h44 : R (a := (Str × Str)) F40 (.ref p38) (("so" : Str), ("more" : Str)) := R.t2 h43 R.str R.str
          obtain ⟨p45, v48, v49, e46, h47, r50, r51⟩ := R.t2_ h44
          cases e46
          obtain rfl := R.str_ r50
          obtain rfl := R.str_ r51
          refine ⟨_, _, _, _, R.str, rfl, (.inr (O41.s _ _ h47)), (RL.mono (RL.cons R.str (RL.cons R.str RL.nil)) O41.s), _, rfl, ?_⟩
          refine iteD (fun q52 => ?_) (fun q52 => ?_)
          · have hk := wp_if hk q52
            obtain ⟨p53, w54, e55, h56⟩ := R.sm_ f_told
            cases e55
            obtain ⟨p57, w58, e59, h60, hl61⟩ := R.tp_ f_leaves
            cases e59
            refine ⟨_, rfl, _, _, _, _, rfl, rfl, (SqTF O41.s h56), (atI0 _ _), _, rfl, _, _, _, _, R.str, rfl, (.inr (O41.s _ _ h60)), (RL.mono (hl61) O41.s), _, rfl, ?_⟩
            refine iteD (fun q62 => ?_) (fun q62 => ?_)
            · have hk := wp_if hk q62
              obtain ⟨y63, e64, hk⟩ := wp_opt hk
              obtain ⟨p65, w66, e67, h68⟩ := R.sm_int f_told e64
              cases e67
              refine ⟨_, rfl, _, _, _, _, rfl, rfl, (SqTF O41.s h68), rfl, _, _, rfl, rfl, _, rfl, ?_⟩
              refine iteD (fun q69 => ?_) (fun q69 => ?_)
              · have hk := wp_if hk q69
                refine ⟨_, rfl, _, _, rfl, rfl, ?_⟩
                exact hk _ _  O41.g 
              · have hk := wp_el hk q69
                exact hk _ _  O41.g 
            · have hk := wp_el hk q62
              exact hk _ _  O41.g 
          · have hk := wp_el hk q52
            obtain ⟨y70, e71, hk⟩ := wp_opt hk
            obtain ⟨p72, w73, v74, v75, e76, h77, r78, r79⟩ := R.sm_two f_told e71
            cases e76
            refine ⟨_, rfl, _, _, _, _, rfl, rfl, (SqTF O41.s h77), rfl, _, rfl, _, rfl, _, _, _, _, _, _, rfl, O41.pre0, r78, f_leaves, wp_call hk (fun r80 er81 hk F82 H83 g84 => ?_) (fun n hn C H1 hC kp => hn C H1 hC (O41.kp0 kp))⟩
            have O85 := O41.call0 g84
            have S_ := g84.f
            have f_told := f_told.mono S_
            have f_leaves := f_leaves.mono S_
            have h4 := S_ _ _ h4
            have h9 := S_ _ _ h9
            have h16 := h16.mono S_
            have h19 := S_ _ _ h19
            have h37 := S_ _ _ h37
            have h44 := h44.mono S_
            have h47 := S_ _ _ h47
            have h77 := S_ _ _ h77
            have r78 := r78.mono S_
            have r79 := r79.mono S_
            refine ⟨_, rfl, ?_⟩
            refine iteB (fun q86 => ?_) (fun q86 => ?_)
            · have hk := wp_if hk q86
              obtain ⟨y87, e88, hk⟩ := wp_opt hk
              obtain ⟨p89, w90, v91, v92, e93, h94, r95, r96⟩ := R.sm_two f_told e88
              cases e93
              refine ⟨_, rfl, _, _, _, _, rfl, rfl, (SqTF O85.s h94), rfl, _, rfl, _, rfl, _, _, _, _, _, _, rfl, O85.pre0, r96, f_leaves, wp_call hk (fun r97 er98 hk F99 H100 g101 => ?_) (fun n hn C H1 hC kp => hn C H1 hC (O85.kp0 kp))⟩
              have O102 := O85.call0 g101
              have S_ := g101.f
              have f_told := f_told.mono S_
              have f_leaves := f_leaves.mono S_
              have h4 := S_ _ _ h4
              have h9 := S_ _ _ h9
              have h16 := h16.mono S_
              have h19 := S_ _ _ h19
              have h37 := S_ _ _ h37
              have h44 := h44.mono S_
              have h47 := S_ _ _ h47
              have h77 := S_ _ _ h77
              have r78 := r78.mono S_
              have r79 := r79.mono S_
              have h94 := S_ _ _ h94
              have r95 := r95.mono S_
              have r96 := r96.mono S_
              exact hk _ _  O102.g 
            · have hk := wp_el hk q86
              exact hk _ _  O85.g 
abbrev s_is_rule : Stmt := top 15
theorem sc_is_rule : FnScope ["thing", "many", "begin", "over", "join", "told", "sums", "leaves", "one"] ["thing"] (defScope s_is_rule) := ⟨rfl, rfl, rfl, by decide +kernel, rfl, by decide +kernel, by decide +kernel⟩
def m_is_rule (x_thing : (T4 (List Sm) (List Sm) (List Sm) Sm)) : M (Bool) :=
if (1 : Int) ≤ (x_thing.a.length : Int) then (
if (x_thing.a.length : Int) ≤ (3 : Int) then (
if (x_thing.b.length : Int) ≠ (x_thing.a.length : Int) then (
.ok false)
else (
if (x_thing.c.length : Int) ≠ (x_thing.a.length : Int) then (
.ok false)
else (
loopM (fun (y93 : ((List Sm) × (Tp Str))) (st104 : Unit) =>
compS (fun (y123 : Sm) (st140 : Unit) =>
m_may_stand 60 y123 y93.2 (x_thing.a.length : Int) >>= fun r146 =>
if r146 = true then (
.ok (none, ()))
else (
.ok (some y123, ()))) y93.1 () >>= fun q164 =>
if q164.1 ≠ ([] : List Sm) then (
.ok (.rt false))
else (
.ok (.nx ()))) ([(T3.mk (x_thing.a, (Tp.mk [("own" : Str)])) (x_thing.b, (Tp.mk [(T3.mk ("own" : Str) ("tie" : Str) ("more" : Str)).a, (T3.mk ("own" : Str) ("tie" : Str) ("more" : Str)).b, (T3.mk ("own" : Str) ("tie" : Str) ("more" : Str)).c])) (x_thing.c, (Tp.mk [(T3.mk ("own" : Str) ("so" : Str) ("more" : Str)).a, (T3.mk ("own" : Str) ("so" : Str) ("more" : Str)).b, (T3.mk ("own" : Str) ("so" : Str) ("more" : Str)).c]))).a, (T3.mk (x_thing.a, (Tp.mk [("own" : Str)])) (x_thing.b, (Tp.mk [(T3.mk ("own" : Str) ("tie" : Str) ("more" : Str)).a, (T3.mk ("own" : Str) ("tie" : Str) ("more" : Str)).b, (T3.mk ("own" : Str) ("tie" : Str) ("more" : Str)).c])) (x_thing.c, (Tp.mk [(T3.mk ("own" : Str) ("so" : Str) ("more" : Str)).a, (T3.mk ("own" : Str) ("so" : Str) ("more" : Str)).b, (T3.mk ("own" : Str) ("so" : Str) ("more" : Str)).c]))).b, (T3.mk (x_thing.a, (Tp.mk [("own" : Str)])) (x_thing.b, (Tp.mk [(T3.mk ("own" : Str) ("tie" : Str) ("more" : Str)).a, (T3.mk ("own" : Str) ("tie" : Str) ("more" : Str)).b, (T3.mk ("own" : Str) ("tie" : Str) ("more" : Str)).c])) (x_thing.c, (Tp.mk [(T3.mk ("own" : Str) ("so" : Str) ("more" : Str)).a, (T3.mk ("own" : Str) ("so" : Str) ("more" : Str)).b, (T3.mk ("own" : Str) ("so" : Str) ("more" : Str)).c]))).c]) () >>= fun f188 => match f188 with
| .rt z_ => .ok z_
| .nx st182 =>
m_may_stand 60 x_thing.d (Tp.mk [(("own" : Str), ("so" : Str)).1, (("own" : Str), ("so" : Str)).2]) (x_thing.a.length : Int) >>= fun r196 =>
.ok r196)))
else (
.ok false))
else (
.ok false)
def sp_is_rule (mg : Str → Option Value) : Sp := fun vs H Q E => ∃ (F : Hp) (v_thing : V) (x_thing : (T4 (List Sm) (List Sm) (List Sm) Sm)), vs = [v_thing] ∧ Pre F [] H ∧ R (a := (T4 (List Sm) (List Sm) (List Sm) Sm)) F v_thing x_thing ∧
  wp (m_is_rule x_thing) (fun r => ∀ (F' H' : Hp), Gr [] F H F' H' → Q (V.bl r) H')
  (fun n => ∀ (C : Addr) (H' : Hp), mg (Str.ofString n) = some (.ref C) → Kp [] H H' → E (.ref C) none H')
set_option maxHeartbeats 2000000 in
theorem ok_is_rule (nb : Nb mg) (C_may_stand : Ca P w K mg base "may_stand" 61 ["told", "leaves", "many"] (sp_may_stand 60 mg)) (D : Df K mg "is_rule" "is_rule" s_is_rule ["thing"]) : Ca P w K mg base "is_rule" 62 ["thing"] (sp_is_rule mg) := by
  obtain ⟨fa_may_stand, fd_may_stand, G_may_stand, M_may_stand, K_may_stand, B_may_stand⟩ := C_may_stand.ex
  refine Ca.mk' D sc_is_rule (fun vs H Q E h => ?_) (fun q_ f_ cdv A outer s H vs Q E hr h => ?_)
  · obtain ⟨F, _, _, rfl, _⟩ := h
    rfl
  · obtain ⟨F, v_thing, x_thing, rfl, P0, f_thing, hk⟩ := h
    have nd := sc_is_rule.nd
    have hu64 := hr.units
    have hu128 := hu128_of hr
    have O := P0.start
    refine ⟨_, (pss_cons (ps_asg (pv 0) (pg_tup rfl (pgs_cons (pg_name (i := 2) nd rfl (Or.inl rfl)) (pgs_cons (pg_name (i := 3) nd rfl (Or.inl rfl)) (pgs_cons (pg_name (i := 4) nd rfl (Or.inl rfl)) (pgs_cons (pg_name (i := 5) nd rfl (Or.inl rfl)) pgs_nil))))))
  (pss_cons (ps_set (i := 1) nd rfl (Or.inr rfl) (pe_callB call_lenT (by rfl) nb.b_len PySem.boot_len (pa_cons (pv 2) pa_nil)))
  (pss_cons (ps_if (PW.pt (pw_or (pt_not (pt_chain op_le op_le pe_int (pv 1) (C8.pe_gc (by rfl) nb.c_MOST))) (pw_or (pt_cmpR (op_neT Int hu64) (pe_callB call_lenT (by rfl) nb.b_len PySem.boot_len (pa_cons (pv 3) pa_nil)) (pv 1) (nomark _)) (pw_or1 (pt_cmpR (op_neT Int hu64) (pe_callB call_lenT (by rfl) nb.b_len PySem.boot_len (pa_cons (pv 4) pa_nil)) (pv 1) (nomark _)))))) (pss_one (ps_ret pe_bl)) pss_nil)
  (pss_cons (ps_for (passes_of rfl) rfl (piTupK (K := K) rfl (pe_tup (pa_cons (pe_tup (pa_cons (pv 2) (pa_cons (pe_tup (pa_cons pe_str pa_nil)) pa_nil))) (pa_cons (pe_tup (pa_cons (pv 3) (pa_cons (pe_tup (pa_cons pe_str (pa_cons pe_str (pa_cons pe_str pa_nil)))) pa_nil))) (pa_cons (pe_tup (pa_cons (pv 4) (pa_cons (pe_tup (pa_cons pe_str (pa_cons pe_str (pa_cons pe_str pa_nil)))) pa_nil))) pa_nil))))) (pg_tup rfl (pgs_cons (pg_name (i := 6) nd rfl (Or.inl rfl)) (pgs_cons (pg_name (i := 7) nd rfl (Or.inr rfl)) pgs_nil))) (pss_one (ps_if (pt_cmpR (op_neX (List Sm) hu64) (pe_lc (own := [("one", 8)]) (g := gName 8) (tt := _) rfl nd (piListK (K := K) rfl (pv 6)) (blkOk_by (own := [("one", 8)]) (N := ["thing", "many", "begin", "over", "join", "told", "sums", "leaves", "one"]) (sc := defScope s_is_rule) (by decide +kernel)) (fun _ _ _ _ _ => (pg_name (i := 8) nd rfl (Or.inl rfl))) (fun _ _ _ _ _ => (pts_one (pt_not (pt_val (pe_call G_may_stand (hr.mono (by decide)) rfl M_may_stand K_may_stand B_may_stand .nil passL (pa_cons (pv 8) (pa_cons (pv 7) (pa_cons (pv 1) pa_nil)))))))) (fun _ _ _ _ _ => (pv 8))) (pe_lst pa_nil) (nomark _)) (pss_one (ps_ret pe_bl)) pss_nil)))
  (pss_one (ps_ret (pe_call G_may_stand (hr.mono (by decide)) rfl M_may_stand K_may_stand B_may_stand .nil (passes_call (takes_of rfl rfl rfl rfl) fun _ _ _ _ h => h) (pa_cons (pv 5) (pa_cons (pe_tup (pa_cons pe_str (pa_cons pe_str pa_nil))) (pa_cons (pv 1) pa_nil)))))))))), ?_⟩
    obtain ⟨p1, v4, v5, v6, v7, e2, h3, r8, r9, r10, r11⟩ := R.t4_ f_thing
    cases e2
    obtain ⟨p12, w13, e14, h15, hl16⟩ := R.lst_ r8
    cases e14
    refine ⟨_, rfl, _, _, rfl, (SqTF O.s h3), rfl, _, _, rfl, _, _, rfl, _, _, rfl, _, _, rfl, rfl, _, rfl, _, _, _, rfl, (.inl (O.s _ _ h15)), hl16.len, _, rfl, _, _, rfl, rfl, _, rfl, ?_⟩
    refine iteD (fun q17 => ?_) (fun q17 => ?_)
    · have hk := wp_if hk q17
      refine ⟨_, _, rfl, rfl, _, rfl, ?_⟩
      refine iteN (fun q18 => ?_) (fun q18 => ?_)
      · have hk := wp_if hk q18
        obtain ⟨p19, w20, e21, h22, hl23⟩ := R.lst_ r9
        cases e21
        refine ⟨_, rfl, _, _, _, rfl, (.inl (O.s _ _ h22)), hl23.len, _, rfl, _, _, R.int, R.int, _, rfl, ?_⟩
        refine iteD (fun q24 => ?_) (fun q24 => ?_)
        · have hk := wp_if hk q24
          refine iteT ?_
          exact hk _ _  O.g 
        · have hk := wp_el hk q24
          obtain ⟨p25, w26, e27, h28, hl29⟩ := R.lst_ r10
          cases e27
          refine ⟨_, rfl, _, _, _, rfl, (.inl (O.s _ _ h28)), hl29.len, _, rfl, _, _, R.int, R.int, _, rfl, ?_⟩
          refine iteD (fun q30 => ?_) (fun q30 => ?_)
          · have hk := wp_if hk q30
            exact hk _ _  O.g 
          · have hk := wp_el hk q30
            refine ⟨_, rfl, (by show 1 ≤ sizeLine; decide), fun p31 hp32 => ?_⟩
            obtain ⟨F33, O34, S35, h36⟩ := O.putE hp32 (.tup [V.str ("own" : Str)])
            have f_thing := f_thing.mono S35
            have h3 := S35 _ _ h3
            have r8 := r8.mono S35
            have r9 := r9.mono S35
            have r10 := r10.mono S35
            have r11 := r11.mono S35
            have h15 := S35 _ _ h15
            have hl16 := hl16.mono S35
            have h22 := S35 _ _ h22
            have hl23 := hl23.mono S35
            have h28 := S35 _ _ h28
            have hl29 := hl29.mono S35
            have h37 := R.of_nam h36
            refine ⟨(by show 2 ≤ sizeLine; decide), fun p38 hp39 => ?_⟩
            have h45 := (R.tp1 h37)
            obtain ⟨F40, O41, S42, h43⟩ := O34.putE hp39 (.tup [V.ref p12, V.ref p31])
            have f_thing := f_thing.mono S42
            have h3 := S42 _ _ h3
            have r8 := r8.mono S42
            have r9 := r9.mono S42
            have r10 := r10.mono S42
            have r11 := r11.mono S42
            have h15 := S42 _ _ h15
            have hl16 := hl16.mono S42
            have h22 := S42 _ _ h22
            have hl23 := hl23.mono S42
            have h28 := S42 _ _ h28
            have hl29 := hl29.mono S42
            have h37 := h37.mono S42
            have h45 := h45.mono S42
            have h44 : R (a := ((List Sm) × (Tp Str))) F40 (.ref p38) (x_thing.a, (Tp.mk [("own" : Str)])) := R.t2 h43 r8 h45
            refine ⟨_, rfl, (by show 3 ≤ sizeLine; decide), fun p46 hp47 => ?_⟩
            obtain ⟨F48, O49, S50, h51⟩ := O41.putE hp47 (.tup [V.str ("own" : Str), V.str ("tie" : Str), V.str ("more" : Str)])
            have f_thing := f_thing.mono S50
            have h3 := S50 _ _ h3
            have r8 := r8.mono S50
            have r9 := r9.mono S50
            have r10 := r10.mono S50
            have r11 := r11.mono S50
            have h15 := S50 _ _ h15
            have hl16 := hl16.mono S50
            have h22 := S50 _ _ h22
            have hl23 := hl23.mono S50
            have h28 := S50 _ _ h28
            have hl29 := hl29.mono S50
            have h37 := h37.mono S50
            have h45 := h45.mono S50
            have h44 := h44.mono S50
            have h52 : R (a := (T3 Str Str Str)) F48 (.ref p46) (T3.mk ("own" : Str) ("tie" : Str) ("more" : Str)) := R.t3 h51 R.str R.str R.str
            refine ⟨(by show 2 ≤ sizeLine; decide), fun p53 hp54 => ?_⟩
            have h60 := (R.tp3 h52)
            obtain ⟨F55, O56, S57, h58⟩ := O49.putE hp54 (.tup [V.ref p19, V.ref p46])
            have f_thing := f_thing.mono S57
            have h3 := S57 _ _ h3
            have r8 := r8.mono S57
            have r9 := r9.mono S57
            have r10 := r10.mono S57
            have r11 := r11.mono S57
            have h15 := S57 _ _ h15
            have hl16 := hl16.mono S57
            have h22 := S57 _ _ h22
            have hl23 := hl23.mono S57
            have h28 := S57 _ _ h28
            have hl29 := hl29.mono S57
            have h37 := h37.mono S57
            have h45 := h45.mono S57
            have h44 := h44.mono S57
            have h52 := h52.mono S57
            have h60 := h60.mono S57
            have h59 : R (a := ((List Sm) × (Tp Str))) F55 (.ref p53) (x_thing.b, (Tp.mk [(T3.mk ("own" : Str) ("tie" : Str) ("more" : Str)).a, (T3.mk ("own" : Str) ("tie" : Str) ("more" : Str)).b, (T3.mk ("own" : Str) ("tie" : Str) ("more" : Str)).c])) := R.t2 h58 r9 h60
            refine ⟨_, rfl, (by show 3 ≤ sizeLine; decide), fun p61 hp62 => ?_⟩
            obtain ⟨F63, O64, S65, h66⟩ := O56.putE hp62 (.tup [V.str ("own" : Str), V.str ("so" : Str), V.str ("more" : Str)])
            have f_thing := f_thing.mono S65
            have h3 := S65 _ _ h3
            have r8 := r8.mono S65
            have r9 := r9.mono S65
            have r10 := r10.mono S65
            have r11 := r11.mono S65
            have h15 := S65 _ _ h15
            have hl16 := hl16.mono S65
            have h22 := S65 _ _ h22
            have hl23 := hl23.mono S65
            have h28 := S65 _ _ h28
            have hl29 := hl29.mono S65
            have h37 := h37.mono S65
            have h45 := h45.mono S65
            have h44 := h44.mono S65
            have h52 := h52.mono S65
            have h60 := h60.mono S65
            have h59 := h59.mono S65
            have h67 : R (a := (T3 Str Str Str)) F63 (.ref p61) (T3.mk ("own" : Str) ("so" : Str) ("more" : Str)) := R.t3 h66 R.str R.str R.str
            refine ⟨(by show 2 ≤ sizeLine; decide), fun p68 hp69 => ?_⟩
            have h75 := (R.tp3 h67)
            obtain ⟨F70, O71, S72, h73⟩ := O64.putE hp69 (.tup [V.ref p25, V.ref p61])
            have f_thing := f_thing.mono S72
            have h3 := S72 _ _ h3
            have r8 := r8.mono S72
            have r9 := r9.mono S72
            have r10 := r10.mono S72
            have r11 := r11.mono S72
            have h15 := S72 _ _ h15
            have hl16 := hl16.mono S72
            have h22 := S72 _ _ h22
            have hl23 := hl23.mono S72
            have h28 := S72 _ _ h28
            have hl29 := hl29.mono S72
            have h37 := h37.mono S72
            have h45 := h45.mono S72
            have h44 := h44.mono S72
            have h52 := h52.mono S72
            have h60 := h60.mono S72
            have h59 := h59.mono S72
            have h67 := h67.mono S72
            have h75 := h75.mono S72
            have h74 : R (a := ((List Sm) × (Tp Str))) F70 (.ref p68) (x_thing.c, (Tp.mk [(T3.mk ("own" : Str) ("so" : Str) ("more" : Str)).a, (T3.mk ("own" : Str) ("so" : Str) ("more" : Str)).b, (T3.mk ("own" : Str) ("so" : Str) ("more" : Str)).c])) := R.t2 h73 r10 h75
            refine ⟨(by show 3 ≤ sizeLine; decide), fun p76 hp77 => ?_⟩
            obtain ⟨F78, O79, S80, h81⟩ := O71.putE hp77 (.tup [V.ref p38, V.ref p53, V.ref p68])
            have f_thing := f_thing.mono S80
            have h3 := S80 _ _ h3
            have r8 := r8.mono S80
            have r9 := r9.mono S80
            have r10 := r10.mono S80
            have r11 := r11.mono S80
            have h15 := S80 _ _ h15
            have hl16 := hl16.mono S80
            have h22 := S80 _ _ h22
            have hl23 := hl23.mono S80
            have h28 := S80 _ _ h28
            have hl29 := hl29.mono S80
            have h37 := h37.mono S80
            have h45 := h45.mono S80
            have h44 := h44.mono S80
            have h52 := h52.mono S80
            have h60 := h60.mono S80
            have h59 := h59.mono S80
            have h67 := h67.mono S80
            have h75 := h75.mono S80
            have h74 := h74.mono S80
            have h82 : R (a := (T3 ((List Sm) × (Tp Str)) ((List Sm) × (Tp Str)) ((List Sm) × (Tp Str)))) F78 (.ref p76) (T3.mk (x_thing.a, (Tp.mk [("own" : Str)])) (x_thing.b, (Tp.mk [(T3.mk ("own" : Str) ("tie" : Str) ("more" : Str)).a, (T3.mk ("own" : Str) ("tie" : Str) ("more" : Str)).b, (T3.mk ("own" : Str) ("tie" : Str) ("more" : Str)).c])) (x_thing.c, (Tp.mk [(T3.mk ("own" : Str) ("so" : Str) ("more" : Str)).a, (T3.mk ("own" : Str) ("so" : Str) ("more" : Str)).b, (T3.mk ("own" : Str) ("so" : Str) ("more" : Str)).c]))) := R.t3 h81 h44 h59 h74
            obtain ⟨p83, v86, v87, v88, e84, h85, r89, r90, r91⟩ := R.t3_ h82
            cases e84
            have hl92 : RL (a := ((List Sm) × (Tp Str))) F78 [v86, v87, v88] [(T3.mk (x_thing.a, (Tp.mk [("own" : Str)])) (x_thing.b, (Tp.mk [(T3.mk ("own" : Str) ("tie" : Str) ("more" : Str)).a, (T3.mk ("own" : Str) ("tie" : Str) ("more" : Str)).b, (T3.mk ("own" : Str) ("tie" : Str) ("more" : Str)).c])) (x_thing.c, (Tp.mk [(T3.mk ("own" : Str) ("so" : Str) ("more" : Str)).a, (T3.mk ("own" : Str) ("so" : Str) ("more" : Str)).b, (T3.mk ("own" : Str) ("so" : Str) ("more" : Str)).c]))).a, (T3.mk (x_thing.a, (Tp.mk [("own" : Str)])) (x_thing.b, (Tp.mk [(T3.mk ("own" : Str) ("tie" : Str) ("more" : Str)).a, (T3.mk ("own" : Str) ("tie" : Str) ("more" : Str)).b, (T3.mk ("own" : Str) ("tie" : Str) ("more" : Str)).c])) (x_thing.c, (Tp.mk [(T3.mk ("own" : Str) ("so" : Str) ("more" : Str)).a, (T3.mk ("own" : Str) ("so" : Str) ("more" : Str)).b, (T3.mk ("own" : Str) ("so" : Str) ("more" : Str)).c]))).b, (T3.mk (x_thing.a, (Tp.mk [("own" : Str)])) (x_thing.b, (Tp.mk [(T3.mk ("own" : Str) ("tie" : Str) ("more" : Str)).a, (T3.mk ("own" : Str) ("tie" : Str) ("more" : Str)).b, (T3.mk ("own" : Str) ("tie" : Str) ("more" : Str)).c])) (x_thing.c, (Tp.mk [(T3.mk ("own" : Str) ("so" : Str) ("more" : Str)).a, (T3.mk ("own" : Str) ("so" : Str) ("more" : Str)).b, (T3.mk ("own" : Str) ("so" : Str) ("more" : Str)).c]))).c] := RL.cons r89 (RL.cons r90 (RL.cons r91 RL.nil))
            obtain ⟨L94, hL95, hLs96, hLd97⟩ := loopM_L hk
            refine ⟨_, rfl, ⟨_, (SqTF O79.s h85)⟩, ?_⟩
            refine for_tup (K := K) (xs := [v86, v87, v88]) (fun i σ H => ∃ (F_ : Hp) (st : Unit) (t_0 : Option V) (t_1 : Option V), σ = [some (V.ref p1), some (V.int (x_thing.a.length : Int)), some (V.ref p12), some (V.ref p19), some (V.ref p25), some v7, t_0, t_1, none] ∧ Same F78 F_ ∧ Ow _ F_ [] H ∧ L94 (List.drop i ([(T3.mk (x_thing.a, (Tp.mk [("own" : Str)])) (x_thing.b, (Tp.mk [(T3.mk ("own" : Str) ("tie" : Str) ("more" : Str)).a, (T3.mk ("own" : Str) ("tie" : Str) ("more" : Str)).b, (T3.mk ("own" : Str) ("tie" : Str) ("more" : Str)).c])) (x_thing.c, (Tp.mk [(T3.mk ("own" : Str) ("so" : Str) ("more" : Str)).a, (T3.mk ("own" : Str) ("so" : Str) ("more" : Str)).b, (T3.mk ("own" : Str) ("so" : Str) ("more" : Str)).c]))).a, (T3.mk (x_thing.a, (Tp.mk [("own" : Str)])) (x_thing.b, (Tp.mk [(T3.mk ("own" : Str) ("tie" : Str) ("more" : Str)).a, (T3.mk ("own" : Str) ("tie" : Str) ("more" : Str)).b, (T3.mk ("own" : Str) ("tie" : Str) ("more" : Str)).c])) (x_thing.c, (Tp.mk [(T3.mk ("own" : Str) ("so" : Str) ("more" : Str)).a, (T3.mk ("own" : Str) ("so" : Str) ("more" : Str)).b, (T3.mk ("own" : Str) ("so" : Str) ("more" : Str)).c]))).b, (T3.mk (x_thing.a, (Tp.mk [("own" : Str)])) (x_thing.b, (Tp.mk [(T3.mk ("own" : Str) ("tie" : Str) ("more" : Str)).a, (T3.mk ("own" : Str) ("tie" : Str) ("more" : Str)).b, (T3.mk ("own" : Str) ("tie" : Str) ("more" : Str)).c])) (x_thing.c, (Tp.mk [(T3.mk ("own" : Str) ("so" : Str) ("more" : Str)).a, (T3.mk ("own" : Str) ("so" : Str) ("more" : Str)).b, (T3.mk ("own" : Str) ("so" : Str) ("more" : Str)).c]))).c])) st) ⟨F78, (), none, none, rfl, Same.refl _, O79, hL95⟩ (fun i_ σ_ H_ _ hp_ => ?_) ?_ ?_
            · obtain ⟨_, _, _, _, _, hS_, hO_, _⟩ := hp_
              exact SqTF hO_.s (hS_ _ _ h85)
            · rintro i98 x99 sg100 H101 hi102 ⟨F107, st104, t105, t106, rfl, S103, O108, hL95⟩
              have f_thing := f_thing.mono S103
              have h3 := S103 _ _ h3
              have r8 := r8.mono S103
              have r9 := r9.mono S103
              have r10 := r10.mono S103
              have r11 := r11.mono S103
              have h15 := S103 _ _ h15
              have hl16 := hl16.mono S103
              have h22 := S103 _ _ h22
              have hl23 := hl23.mono S103
              have h28 := S103 _ _ h28
              have hl29 := hl29.mono S103
              have h37 := h37.mono S103
              have h45 := h45.mono S103
              have h44 := h44.mono S103
              have h52 := h52.mono S103
              have h60 := h60.mono S103
              have h59 := h59.mono S103
              have h67 := h67.mono S103
              have h75 := h75.mono S103
              have h74 := h74.mono S103
              have h82 := h82.mono S103
              have h85 := S103 _ _ h85
              have r89 := r89.mono S103
              have r90 := r90.mono S103
              have r91 := r91.mono S103
              have hl92 := hl92.mono S103
              obtain ⟨y93, e109, r110⟩ := RL.got hl92 hi102
              rw [drop_at e109] at hL95
              have hk := hLs96 _ _ _ hL95
              obtain ⟨p111, v114, v115, e112, h113, r116, r117⟩ := R.t2_ r110
              cases e112
              obtain ⟨p118, w119, e120, h121, hl122⟩ := R.lst_ r116
              cases e120
              obtain ⟨c128, L124, hL125, hLs126, hLd127⟩ := compS_L hk
              refine ⟨_, _, rfl, (SqTF O108.s h113), rfl, _, _, rfl, _, _, rfl, rfl, _, rfl, _, rfl, ⟨_, (SqLF O108.s h121)⟩, fun p129 hp130 => ?_⟩
              have z153 := O108.was hp130
              refine lc_list (K := K) (xs := w119) (fun i H => ∃ (F_ : Hp) (st : Unit) (acc : List Sm) (wa : List V), Same F107 F_ ∧ Ow _ F_ [(p129, .lst wa)] H ∧ RL F_ wa acc ∧ wa.length ≤ i ∧ L124 (List.drop i y93.1) acc st) ⟨F107, (), [], [], Same.refl _, O108.new hp130, RL.nil, Nat.zero_le _, hL125⟩ (fun i_ H_ _ hp_ => ?_) ?_ ?_
              · obtain ⟨_, _, _, _, hS_, hO_, _⟩ := hp_
                exact SqLF hO_.s (hS_ _ _ h121)
              · rintro i131 x132 H133 hi134 ⟨F139, st140, acc136, wa137, S141, O143, hl142, la138, hL125⟩
                have f_thing := f_thing.mono S141
                have h3 := S141 _ _ h3
                have r8 := r8.mono S141
                have r9 := r9.mono S141
                have r10 := r10.mono S141
                have r11 := r11.mono S141
                have h15 := S141 _ _ h15
                have hl16 := hl16.mono S141
                have h22 := S141 _ _ h22
                have hl23 := hl23.mono S141
                have h28 := S141 _ _ h28
                have hl29 := hl29.mono S141
                have h37 := h37.mono S141
                have h45 := h45.mono S141
                have h44 := h44.mono S141
                have h52 := h52.mono S141
                have h60 := h60.mono S141
                have h59 := h59.mono S141
                have h67 := h67.mono S141
                have h75 := h75.mono S141
                have h74 := h74.mono S141
                have h82 := h82.mono S141
                have h85 := S141 _ _ h85
                have r89 := r89.mono S141
                have r90 := r90.mono S141
                have r91 := r91.mono S141
                have hl92 := hl92.mono S141
                have S103 := S103.trans S141
                have r110 := r110.mono S141
                have h113 := S141 _ _ h113
                have r116 := r116.mono S141
                have r117 := r117.mono S141
                have h121 := S141 _ _ h121
                have hl122 := hl122.mono S141
                obtain ⟨y123, e144, r145⟩ := RL.got hl122 hi134
                rw [drop_at e144] at hL125
                have hk := hLs126 _ _ _ _ hL125
                refine ⟨rfl, _, rfl, _, rfl, _, rfl, _, _, _, _, _, _, rfl, O143.pre0, r145, r117, wp_call hk (fun r146 er147 hk F148 H149 g150 => ?_) (fun n hn => hn.elim)⟩
                have O151 := O143.call0 g150
                have S_ := g150.f
                have f_thing := f_thing.mono S_
                have h3 := S_ _ _ h3
                have r8 := r8.mono S_
                have r9 := r9.mono S_
                have r10 := r10.mono S_
                have r11 := r11.mono S_
                have h15 := S_ _ _ h15
                have hl16 := hl16.mono S_
                have h22 := S_ _ _ h22
                have hl23 := hl23.mono S_
                have h28 := S_ _ _ h28
                have hl29 := hl29.mono S_
                have h37 := h37.mono S_
                have h45 := h45.mono S_
                have h44 := h44.mono S_
                have h52 := h52.mono S_
                have h60 := h60.mono S_
                have h59 := h59.mono S_
                have h67 := h67.mono S_
                have h75 := h75.mono S_
                have h74 := h74.mono S_
                have h82 := h82.mono S_
                have h85 := S_ _ _ h85
                have r89 := r89.mono S_
                have r90 := r90.mono S_
                have r91 := r91.mono S_
                have hl92 := hl92.mono S_
                have S103 := S103.trans S_
                have r110 := r110.mono S_
                have h113 := S_ _ _ h113
                have r116 := r116.mono S_
                have r117 := r117.mono S_
                have h121 := S_ _ _ h121
                have hl122 := hl122.mono S_
                have S141 := S141.trans S_
                have hl142 := hl142.mono S_
                have r145 := r145.mono S_
                refine ⟨_, rfl, ?_⟩
                refine iteBN (fun q152 => ?_) (fun q152 => ?_)
                · have hk := wp_if hk q152
                  exact ⟨F148, (), acc136, wa137, S141, O151, hl142, Nat.le_succ_of_le la138, hk⟩
                · have hk := wp_el hk q152
                  refine ⟨_, rfl, _, (O151.at 0 rfl), (comp_len la138 hi134 hl122.len c128), ?_⟩
                  exact ⟨F148, (), acc136 ++ [y123], wa137 ++ [x132], S141, O151.set 0 (.lst (wa137 ++ [x132])) rfl, RL.snoc hl142 r145, by rw [List.length_append]; exact Nat.succ_le_succ la138, hk⟩
              rintro H154 ⟨F155, st156, acc157, wa158, S159, O160, hl161, la162, hL163⟩
              rw [drop_end hl122.len] at hL163
              have hk := hLd127 _ _ hL163
              have f_thing := f_thing.mono S159
              have h3 := S159 _ _ h3
              have r8 := r8.mono S159
              have r9 := r9.mono S159
              have r10 := r10.mono S159
              have r11 := r11.mono S159
              have h15 := S159 _ _ h15
              have hl16 := hl16.mono S159
              have h22 := S159 _ _ h22
              have hl23 := hl23.mono S159
              have h28 := S159 _ _ h28
              have hl29 := hl29.mono S159
              have h37 := h37.mono S159
              have h45 := h45.mono S159
              have h44 := h44.mono S159
              have h52 := h52.mono S159
              have h60 := h60.mono S159
              have h59 := h59.mono S159
              have h67 := h67.mono S159
              have h75 := h75.mono S159
              have h74 := h74.mono S159
              have h82 := h82.mono S159
              have h85 := S159 _ _ h85
              have r89 := r89.mono S159
              have r90 := r90.mono S159
              have r91 := r91.mono S159
              have hl92 := hl92.mono S159
              have S103 := S103.trans S159
              have r110 := r110.mono S159
              have h113 := S159 _ _ h113
              have r116 := r116.mono S159
              have r117 := r117.mono S159
              have h121 := S159 _ _ h121
              have hl122 := hl122.mono S159
              obtain ⟨F165, O166, S167, h168⟩ := O160.frzE 0 rfl z153
              have f_thing := f_thing.mono S167
              have h3 := S167 _ _ h3
              have r8 := r8.mono S167
              have r9 := r9.mono S167
              have r10 := r10.mono S167
              have r11 := r11.mono S167
              have h15 := S167 _ _ h15
              have hl16 := hl16.mono S167
              have h22 := S167 _ _ h22
              have hl23 := hl23.mono S167
              have h28 := S167 _ _ h28
              have hl29 := hl29.mono S167
              have h37 := h37.mono S167
              have h45 := h45.mono S167
              have h44 := h44.mono S167
              have h52 := h52.mono S167
              have h60 := h60.mono S167
              have h59 := h59.mono S167
              have h67 := h67.mono S167
              have h75 := h75.mono S167
              have h74 := h74.mono S167
              have h82 := h82.mono S167
              have h85 := S167 _ _ h85
              have r89 := r89.mono S167
              have r90 := r90.mono S167
              have r91 := r91.mono S167
              have hl92 := hl92.mono S167
              have S103 := S103.trans S167
              have r110 := r110.mono S167
              have h113 := S167 _ _ h113
              have r116 := r116.mono S167
              have r117 := r117.mono S167
              have h121 := S167 _ _ h121
              have hl122 := hl122.mono S167
              have hl161 := hl161.mono S167
              have h169 := R.lst (a := Sm) h168 hl161
              refine ⟨(by show 0 ≤ sizeLine; decide), fun p170 hp171 => ?_⟩
              have hl177 : RL (a := Sm) F165 ([]) ([] : List Sm) := RL.nil
              obtain ⟨F172, O173, S174, h175⟩ := O166.putE hp171 (.lst ([]))
              have f_thing := f_thing.mono S174
              have h3 := S174 _ _ h3
              have r8 := r8.mono S174
              have r9 := r9.mono S174
              have r10 := r10.mono S174
              have r11 := r11.mono S174
              have h15 := S174 _ _ h15
              have hl16 := hl16.mono S174
              have h22 := S174 _ _ h22
              have hl23 := hl23.mono S174
              have h28 := S174 _ _ h28
              have hl29 := hl29.mono S174
              have h37 := h37.mono S174
              have h45 := h45.mono S174
              have h44 := h44.mono S174
              have h52 := h52.mono S174
              have h60 := h60.mono S174
              have h59 := h59.mono S174
              have h67 := h67.mono S174
              have h75 := h75.mono S174
              have h74 := h74.mono S174
              have h82 := h82.mono S174
              have h85 := S174 _ _ h85
              have r89 := r89.mono S174
              have r90 := r90.mono S174
              have r91 := r91.mono S174
              have hl92 := hl92.mono S174
              have S103 := S103.trans S174
              have r110 := r110.mono S174
              have h113 := S174 _ _ h113
              have r116 := r116.mono S174
              have r117 := r117.mono S174
              have h121 := S174 _ _ h121
              have hl122 := hl122.mono S174
              have h169 := h169.mono S174
              have hl177 := hl177.mono S174
              have h176 := R.lst (a := Sm) h175 hl177
              refine ⟨_, _, (R.mono h169 O173.s), (R.mono h176 O173.s), (Nat.le_trans (Nat.min_le_right _ _) (by decide)), _, rfl, ?_⟩
              refine iteD (fun q178 => ?_) (fun q178 => ?_)
              · have hk := wp_if hk q178
                exact hk _ _  O173.g 
              · have hk := wp_el hk q178
                exact ⟨F172, (), some (V.ref p118), some v115, rfl, S103, O173, hk⟩
            rintro sg179 H180 ⟨F186, st182, t184, t185, rfl, S181, O187, hL183⟩
            rw [drop_end hl92.len] at hL183
            have hk := hLd97 _ hL183
            have f_thing := f_thing.mono S181
            have h3 := S181 _ _ h3
            have r8 := r8.mono S181
            have r9 := r9.mono S181
            have r10 := r10.mono S181
            have r11 := r11.mono S181
            have h15 := S181 _ _ h15
            have hl16 := hl16.mono S181
            have h22 := S181 _ _ h22
            have hl23 := hl23.mono S181
            have h28 := S181 _ _ h28
            have hl29 := hl29.mono S181
            have h37 := h37.mono S181
            have h45 := h45.mono S181
            have h44 := h44.mono S181
            have h52 := h52.mono S181
            have h60 := h60.mono S181
            have h59 := h59.mono S181
            have h67 := h67.mono S181
            have h75 := h75.mono S181
            have h74 := h74.mono S181
            have h82 := h82.mono S181
            have h85 := S181 _ _ h85
            have r89 := r89.mono S181
            have r90 := r90.mono S181
            have r91 := r91.mono S181
            have hl92 := hl92.mono S181
            refine ⟨_, rfl, (by show 2 ≤ sizeLine; decide), fun p189 hp190 => ?_⟩
            obtain ⟨F191, O192, S193, h194⟩ := O187.putE hp190 (.tup [V.str ("own" : Str), V.str ("so" : Str)])
            have f_thing := f_thing.mono S193
            have h3 := S193 _ _ h3
            have r8 := r8.mono S193
            have r9 := r9.mono S193
            have r10 := r10.mono S193
            have r11 := r11.mono S193
            have h15 := S193 _ _ h15
            have hl16 := hl16.mono S193
            have h22 := S193 _ _ h22
            have hl23 := hl23.mono S193
            have h28 := S193 _ _ h28
            have hl29 := hl29.mono S193
            have h37 := h37.mono S193
            have h45 := h45.mono S193
            have h44 := h44.mono S193
            have h52 := h52.mono S193
            have h60 := h60.mono S193
            have h59 := h59.mono S193
            have h67 := h67.mono S193
            have h75 := h75.mono S193
            have h74 := h74.mono S193
            have h82 := h82.mono S193
            have h85 := S193 _ _ h85
            have r89 := r89.mono S193
            have r90 := r90.mono S193
            have r91 := r91.mono S193
            have hl92 := hl92.mono S193
            have h195 : R (a := (Str × Str)) F191 (.ref p189) (("own" : Str), ("so" : Str)) := R.t2 h194 R.str R.str
            refine ⟨_, rfl, _, _, _, _, _, _, rfl, O192.pre0, r11, (R.tp2 h195), wp_call hk (fun r196 er197 hk F198 H199 g200 => ?_) (fun n hn C H1 hC kp => hn C H1 hC (O192.kp0 kp))⟩
            have O201 := O192.call0 g200
            have S_ := g200.f
            have f_thing := f_thing.mono S_
            have h3 := S_ _ _ h3
            have r8 := r8.mono S_
            have r9 := r9.mono S_
            have r10 := r10.mono S_
            have r11 := r11.mono S_
            have h15 := S_ _ _ h15
            have hl16 := hl16.mono S_
            have h22 := S_ _ _ h22
            have hl23 := hl23.mono S_
            have h28 := S_ _ _ h28
            have hl29 := hl29.mono S_
            have h37 := h37.mono S_
            have h45 := h45.mono S_
            have h44 := h44.mono S_
            have h52 := h52.mono S_
            have h60 := h60.mono S_
            have h59 := h59.mono S_
            have h67 := h67.mono S_
            have h75 := h75.mono S_
            have h74 := h74.mono S_
            have h82 := h82.mono S_
            have h85 := S_ _ _ h85
            have r89 := r89.mono S_
            have r90 := r90.mono S_
            have r91 := r91.mono S_
            have hl92 := hl92.mono S_
            have h195 := h195.mono S_
            exact hk _ _  O201.g 
      · have hk := wp_el hk q18
        refine iteT ?_
        exact hk _ _  O.g 
    · have hk := wp_el hk q17
      refine ⟨_, rfl, ?_⟩
      refine iteNF ?_
      refine iteT ?_
      exact hk _ _  O.g 
abbrev s_need_rule : Stmt := top 16
theorem sc_need_rule : FnScope ["rule"] ["rule"] (defScope s_need_rule) := ⟨rfl, rfl, rfl, by decide +kernel, rfl, by decide +kernel, by decide +kernel⟩
def m_need_rule (x_rule : (T4 (List Sm) (List Sm) (List Sm) Sm)) : M (Unit) :=
m_is_rule x_rule >>= fun r1 =>
if r1 = true then (
.ok ())
else (
raise "NoRule")
def sp_need_rule (mg : Str → Option Value) : Sp := fun vs H Q E => ∃ (F : Hp) (v_rule : V) (x_rule : (T4 (List Sm) (List Sm) (List Sm) Sm)), vs = [v_rule] ∧ Pre F [] H ∧ R (a := (T4 (List Sm) (List Sm) (List Sm) Sm)) F v_rule x_rule ∧
  wp (m_need_rule x_rule) (fun r => ∀ (F' H' : Hp), Gr [] F H F' H' → Q .non H')
  (fun n => ∀ (C : Addr) (H' : Hp), mg (Str.ofString n) = some (.ref C) → Kp [] H H' → E (.ref C) none H')
set_option maxHeartbeats 2000000 in
theorem ok_need_rule (nb : Nb mg) (C_is_rule : Ca P w K mg base "is_rule" 62 ["thing"] (sp_is_rule mg)) (E_NoRule : ∃ C, Xc K mg "NoRule" C) (D : Df K mg "need_rule" "need_rule" s_need_rule ["rule"]) : Ca P w K mg base "need_rule" 63 ["rule"] (sp_need_rule mg) := by
  obtain ⟨fa_is_rule, fd_is_rule, G_is_rule, M_is_rule, K_is_rule, B_is_rule⟩ := C_is_rule.ex
  obtain ⟨XC_NoRule, X_NoRule⟩ := E_NoRule
  refine Ca.mk' D sc_need_rule (fun vs H Q E h => ?_) (fun q_ f_ cdv A outer s H vs Q E hr h => ?_)
  · obtain ⟨F, _, _, rfl, _⟩ := h
    rfl
  · obtain ⟨F, v_rule, x_rule, rfl, P0, f_rule, hk⟩ := h
    have nd := sc_need_rule.nd
    have hu64 := hr.units
    have hu128 := hu128_of hr
    have O := P0.start
    refine ⟨_, (pss_one (ps_if (pt_not (pt_val (pe_call G_is_rule (hr.mono (by decide)) rfl M_is_rule K_is_rule B_is_rule .nil (passes_call (takes_of rfl rfl rfl rfl) fun _ _ _ _ h => h) (pa_cons (pv 0) pa_nil)))) (pss_one (ps_raise rfl (takes_of rfl rfl rfl rfl) (pmk_own PySem.F.excBase_ValueError X_NoRule.x X_NoRule.g X_NoRule.k (raises_own X_NoRule.b X_NoRule.t) rfl))) pss_nil)), ?_⟩
    refine ⟨_, rfl, _, _, _, rfl, O.pre0, f_rule, wp_call hk (fun r1 er2 hk F3 H4 g5 => ?_) (fun n hn C H1 hC kp => hn C H1 hC (O.kp0 kp))⟩
    have O6 := O.call0 g5
    have S_ := g5.f
    have f_rule := f_rule.mono S_
    refine ⟨_, rfl, ?_⟩
    refine iteBN (fun q7 => ?_) (fun q7 => ?_)
    · have hk := wp_if hk q7
      exact hk _ _  O6.g 
    · have hk := wp_el hk q7
      exact hk _ _ X_NoRule.g O6.kp
abbrev s_sum_at : Stmt := top 17
theorem sc_sum_at : FnScope ["sum_told", "own", "tie", "so", "more", "word", "one", "other", "part"] ["sum_told", "own", "tie", "so", "more"] (defScope s_sum_at) := ⟨rfl, rfl, rfl, by decide +kernel, rfl, by decide +kernel, by decide +kernel⟩
def m_sum_at : Nat → Sm → Int → Int → (List Int) → (List Int) → M (Int)
  | 0, _, _, _, _, _ => bad
  | k_ + 1, x_sum_told, x_own, x_tie, x_so, x_more =>
    if (Sm.word x_sum_told) = ("number" : Str) then (
    opt (Sm.int? x_sum_told) >>= fun y6 =>
    .ok y6)
    else (
    if (Sm.word x_sum_told) = ("own" : Str) then (
    .ok x_own)
    else (
    if (Sm.word x_sum_told) = ("tie" : Str) then (
    .ok x_tie)
    else (
    if (Sm.word x_sum_told) = ("so" : Str) then (
    opt (Sm.int? x_sum_told) >>= fun y15 =>
    opt (atI x_so y15) >>= fun y26 =>
    .ok y26)
    else (
    if (Sm.word x_sum_told) = ("more" : Str) then (
    opt (Sm.int? x_sum_told) >>= fun y32 =>
    opt (atI x_more y32) >>= fun y43 =>
    .ok y43)
    else (
    opt (Sm.two? x_sum_told) >>= fun y48 =>
    compS (fun (y65 : Sm) (st82 : Unit) =>
    m_sum_at k_ y65 x_own x_tie x_so x_more >>= fun r88 =>
    .ok (some r88, ())) ([y48.1, y48.2]) () >>= fun q105 =>
    two2 q105.1 >>= fun (x116, y117) =>
    if (Sm.word x_sum_told) = ("plus" : Str) then (
    .ok (x116 + y117))
    else (
    if (Sm.word x_sum_told) = ("less" : Str) then (
    .ok (x116 - y117))
    else (
    if (Sm.word x_sum_told) = ("times" : Str) then (
    chk (CMulW x116 y117) >>= fun _ =>
    .ok (x116 * y117))
    else (
    if (Sm.word x_sum_told) = ("most" : Str) then (
    .ok (if y117 > x116 then y117 else x116))
    else (
    .ok (if y117 < x116 then y117 else x116))))))))))
def sp_sum_at (k_ : Nat) (mg : Str → Option Value) : Sp := fun vs H Q E => ∃ (F : Hp) (v_sum_told : V) (x_sum_told : Sm) (x_own : Int) (x_tie : Int) (v_so : V) (x_so : (List Int)) (v_more : V) (x_more : (List Int)), vs = [v_sum_told, V.int x_own, V.int x_tie, v_so, v_more] ∧ Pre F [] H ∧ R (a := Sm) F v_sum_told x_sum_told ∧ R (a := (List Int)) F v_so x_so ∧ R (a := (List Int)) F v_more x_more ∧
  wp (m_sum_at k_ x_sum_told x_own x_tie x_so x_more) (fun r => ∀ (F' H' : Hp), Gr [] F H F' H' → Q (V.int r) H')
  (fun n => ∀ (C : Addr) (H' : Hp), mg (Str.ofString n) = some (.ref C) → Kp [] H H' → E (.ref C) none H')
set_option maxHeartbeats 2000000 in
theorem ok_sum_at (nb : Nb mg) (D : Df K mg "sum_at" "sum_at" s_sum_at ["sum_told", "own", "tie", "so", "more"]) : ∀ k_ : Nat, Ca P w K mg base "sum_at" (k_ + 1) ["sum_told", "own", "tie", "so", "more"] (sp_sum_at k_ mg) := by
  intro k_
  induction k_ with
  | zero =>
    refine Ca.mk' D sc_sum_at (fun vs H Q E h => ?_) (fun q_ f_ cdv A outer s H vs Q E hr h => ?_)
    · obtain ⟨F, _, _, _, _, _, _, _, _, rfl, _⟩ := h
      rfl
    · obtain ⟨F, _, _, _, _, _, _, _, _, rfl, _, _, _, _, hk⟩ := h
      exact hk.elim
  | succ k_ ih_ =>
    have C_sum_at := ih_
    obtain ⟨fa_sum_at, fd_sum_at, G_sum_at, M_sum_at, K_sum_at, B_sum_at⟩ := C_sum_at.ex
    refine Ca.mk' D sc_sum_at (fun vs H Q E h => ?_) (fun q_ f_ cdv A outer s H vs Q E hr h => ?_)
    · obtain ⟨F, _, _, _, _, _, _, _, _, rfl, _⟩ := h
      rfl
    · obtain ⟨F, v_sum_told, x_sum_told, x_own, x_tie, v_so, x_so, v_more, x_more, rfl, P0, f_sum_told, f_so, f_more, hk⟩ := h
      have nd := sc_sum_at.nd
      have hu64 := hr.units
      have hu128 := hu128_of hr
      have O := P0.start
      refine ⟨_, (pss_cons (ps_set (i := 5) nd rfl (Or.inl rfl) (pe_ix (ixTupK (K := K) rfl) (pv 0) pe_int (fun _ _ => rfl)))
  (pss_cons (ps_if (pt_cmpR (op_eqT Str hu64) (pv 5) pe_str (nomark _)) (pss_one (ps_ret (pe_ix (ixTupK (K := K) rfl) (pv 0) pe_int (fun _ _ => rfl)))) pss_nil)
  (pss_cons (ps_if (pt_cmpR (op_eqT Str hu64) (pv 5) pe_str (nomark _)) (pss_one (ps_ret (pv 1))) pss_nil)
  (pss_cons (ps_if (pt_cmpR (op_eqT Str hu64) (pv 5) pe_str (nomark _)) (pss_one (ps_ret (pv 2))) pss_nil)
  (pss_cons (ps_if (pt_cmpR (op_eqT Str hu64) (pv 5) pe_str (nomark _)) (pss_one (ps_ret (pe_ix (ixListK (K := K) rfl) (pv 3) (pe_ix (ixTupK (K := K) rfl) (pv 0) pe_int (fun _ _ => rfl)) (fun _ _ => rfl)))) pss_nil)
  (pss_cons (ps_if (pt_cmpR (op_eqT Str hu64) (pv 5) pe_str (nomark _)) (pss_one (ps_ret (pe_ix (ixListK (K := K) rfl) (pv 4) (pe_ix (ixTupK (K := K) rfl) (pv 0) pe_int (fun _ _ => rfl)) (fun _ _ => rfl)))) pss_nil)
  (pss_cons (ps_asg (pe_lc (own := [("part", 8)]) (g := gName 8) (tt := _) rfl nd (piTupK (K := K) rfl (pe_slice (slTupK (K := K) rfl) (pv 0) (po_some pe_int) po_none)) (blkOk_by (own := [("part", 8)]) (N := ["sum_told", "own", "tie", "so", "more", "word", "one", "other", "part"]) (sc := defScope s_sum_at) (by decide +kernel)) (fun _ _ _ _ _ => (pg_name (i := 8) nd rfl (Or.inl rfl))) (fun _ _ _ _ _ => pts_nil) (fun _ _ _ _ _ => (pe_call G_sum_at (hr.mono (by omega)) rfl M_sum_at K_sum_at B_sum_at .nil passL (pa_cons (pv 8) (pa_cons (pv 1) (pa_cons (pv 2) (pa_cons (pv 3) (pa_cons (pv 4) pa_nil)))))))) (pgLstK (K := K) rfl rfl (pgs_cons (pg_name (i := 6) nd rfl (Or.inl rfl)) (pgs_cons (pg_name (i := 7) nd rfl (Or.inl rfl)) pgs_nil))))
  (pss_cons (ps_if (pt_cmpR (op_eqT Str hu64) (pv 5) pe_str (nomark _)) (pss_one (ps_ret (pe_op op_add (pv 6) (pv 7)))) pss_nil)
  (pss_cons (ps_if (pt_cmpR (op_eqT Str hu64) (pv 5) pe_str (nomark _)) (pss_one (ps_ret (pe_op op_sub (pv 6) (pv 7)))) pss_nil)
  (pss_cons (ps_if (pt_cmpR (op_eqT Str hu64) (pv 5) pe_str (nomark _)) (pss_one (ps_ret (pe_op op_mulW (pv 6) (pv 7)))) pss_nil)
  (pss_cons (ps_if (pt_cmpR (op_eqT Str hu64) (pv 5) pe_str (nomark _)) (pss_one (ps_ret (pe_callB (call_max2 rfl) (by rfl) nb.b_max (by decide +kernel) (pa_cons (pv 6) (pa_cons (pv 7) pa_nil))))) pss_nil)
  (pss_one (ps_ret (pe_callB (call_min2 rfl) (by rfl) nb.b_min (by decide +kernel) (pa_cons (pv 6) (pa_cons (pv 7) pa_nil)))))))))))))))), ?_⟩
      obtain ⟨p1, w2, e3, h4⟩ := R.sm_ f_sum_told
      cases e3
      refine ⟨_, rfl, _, _, _, _, rfl, rfl, (SqTF O.s h4), (atI0 _ _), _, rfl, _, _, R.str, R.str, _, rfl, ?_⟩
      refine iteD (fun q5 => ?_) (fun q5 => ?_)
      · have hk := wp_if hk q5
        obtain ⟨y6, e7, hk⟩ := wp_opt hk
        obtain ⟨p8, w9, e10, h11⟩ := R.sm_int f_sum_told e7
        cases e10
        refine ⟨_, rfl, _, _, _, _, rfl, rfl, (SqTF O.s h11), rfl, ?_⟩
        exact hk _ _  O.g 
      · have hk := wp_el hk q5
        refine ⟨_, rfl, _, _, R.str, R.str, _, rfl, ?_⟩
        refine iteD (fun q12 => ?_) (fun q12 => ?_)
        · have hk := wp_if hk q12
          refine ⟨_, rfl, ?_⟩
          exact hk _ _  O.g 
        · have hk := wp_el hk q12
          refine ⟨_, rfl, _, _, R.str, R.str, _, rfl, ?_⟩
          refine iteD (fun q13 => ?_) (fun q13 => ?_)
          · have hk := wp_if hk q13
            refine ⟨_, rfl, ?_⟩
            exact hk _ _  O.g 
          · have hk := wp_el hk q13
            refine ⟨_, rfl, _, _, R.str, R.str, _, rfl, ?_⟩
            refine iteD (fun q14 => ?_) (fun q14 => ?_)
            · have hk := wp_if hk q14
              obtain ⟨y15, e16, hk⟩ := wp_opt hk
              obtain ⟨p17, w18, e19, h20⟩ := R.sm_int f_sum_told e16
              cases e19
              obtain ⟨p21, w22, e23, h24, hl25⟩ := R.lst_ f_so
              cases e23
              obtain ⟨y26, e27, hk⟩ := wp_opt hk
              obtain ⟨w28, e29, r30⟩ := hl25.atI e27
              obtain rfl := R.int_ r30
              refine ⟨_, rfl, _, rfl, _, _, _, _, rfl, rfl, (SqTF O.s h20), rfl, _, _, _, _, rfl, rfl, (SqLF O.s h24), e29, ?_⟩
              exact hk _ _  O.g 
            · have hk := wp_el hk q14
              refine ⟨_, rfl, _, _, R.str, R.str, _, rfl, ?_⟩
              refine iteD (fun q31 => ?_) (fun q31 => ?_)
              · have hk := wp_if hk q31
                obtain ⟨y32, e33, hk⟩ := wp_opt hk
                obtain ⟨p34, w35, e36, h37⟩ := R.sm_int f_sum_told e33
                cases e36
                obtain ⟨p38, w39, e40, h41, hl42⟩ := R.lst_ f_more
                cases e40
                obtain ⟨y43, e44, hk⟩ := wp_opt hk
                obtain ⟨w45, e46, r47⟩ := hl42.atI e44
                obtain rfl := R.int_ r47
                refine ⟨_, rfl, _, rfl, _, _, _, _, rfl, rfl, (SqTF O.s h37), rfl, _, _, _, _, rfl, rfl, (SqLF O.s h41), e46, ?_⟩
                exact hk _ _  O.g 
              · have hk := wp_el hk q31
                obtain ⟨y48, e49, hk⟩ := wp_opt hk
                obtain ⟨p50, w51, v52, v53, e54, h55, r56, r57⟩ := R.sm_two f_sum_told e49
                cases e54
                refine ⟨_, rfl, _, rfl, _, _, rfl, (SqTF O.s h55), (sl3 _ _ _), fun p58 hp59 => ?_⟩
                obtain ⟨F60, O61, S62, h63⟩ := O.putE hp59 (.tup [v52, v53])
                have f_sum_told := f_sum_told.mono S62
                have f_so := f_so.mono S62
                have f_more := f_more.mono S62
                have h4 := S62 _ _ h4
                have h55 := S62 _ _ h55
                have r56 := r56.mono S62
                have r57 := r57.mono S62
                have hl64 : RL (a := Sm) F60 [v52, v53] [y48.1, y48.2] := RL.cons r56 (RL.cons r57 RL.nil)
                obtain ⟨c70, L66, hL67, hLs68, hLd69⟩ := compS_L hk
                refine ⟨_, rfl, ⟨_, (SqTF O61.s h63)⟩, fun p71 hp72 => ?_⟩
                have z94 := O61.was hp72
                refine lc_tup (K := K) (xs := [v52, v53]) (fun i H => ∃ (F_ : Hp) (st : Unit) (acc : List Int) (wa : List V), Same F60 F_ ∧ Ow _ F_ [(p71, .lst wa)] H ∧ RL F_ wa acc ∧ wa.length ≤ i ∧ L66 (List.drop i ([y48.1, y48.2])) acc st) ⟨F60, (), [], [], Same.refl _, O61.new hp72, RL.nil, Nat.zero_le _, hL67⟩ (fun i_ H_ _ hp_ => ?_) ?_ ?_
                · obtain ⟨_, _, _, _, hS_, hO_, _⟩ := hp_
                  exact SqTF hO_.s (hS_ _ _ h63)
                · rintro i73 x74 H75 hi76 ⟨F81, st82, acc78, wa79, S83, O85, hl84, la80, hL67⟩
                  have f_sum_told := f_sum_told.mono S83
                  have f_so := f_so.mono S83
                  have f_more := f_more.mono S83
                  have h4 := S83 _ _ h4
                  have h55 := S83 _ _ h55
                  have r56 := r56.mono S83
                  have r57 := r57.mono S83
                  have h63 := S83 _ _ h63
                  have hl64 := hl64.mono S83
                  obtain ⟨y65, e86, r87⟩ := RL.got hl64 hi76
                  rw [drop_at e86] at hL67
                  have hk := hLs68 _ _ _ _ hL67
                  refine ⟨rfl, ?_⟩
                  refine ⟨_, rfl, _, rfl, _, rfl, _, rfl, _, rfl, _, _, _, _, _, _, _, _, _, rfl, O85.pre0, r87, f_so, f_more, wp_call hk (fun r88 er89 hk F90 H91 g92 => ?_) (fun n hn => hn.elim)⟩
                  have O93 := O85.call0 g92
                  have S_ := g92.f
                  have f_sum_told := f_sum_told.mono S_
                  have f_so := f_so.mono S_
                  have f_more := f_more.mono S_
                  have h4 := S_ _ _ h4
                  have h55 := S_ _ _ h55
                  have r56 := r56.mono S_
                  have r57 := r57.mono S_
                  have h63 := S_ _ _ h63
                  have hl64 := hl64.mono S_
                  have S83 := S83.trans S_
                  have hl84 := hl84.mono S_
                  have r87 := r87.mono S_
                  refine ⟨_, (O93.at 0 rfl), (comp_len la80 hi76 hl64.len c70), ?_⟩
                  exact ⟨F90, (), acc78 ++ [r88], wa79 ++ [V.int r88], S83, O93.set 0 (.lst (wa79 ++ [V.int r88])) rfl, RL.snoc hl84 R.int, by rw [List.length_append]; exact Nat.succ_le_succ la80, hk⟩
                rintro H95 ⟨F96, st97, acc98, wa99, S100, O101, hl102, la103, hL104⟩
                rw [drop_end hl64.len] at hL104
                have hk := hLd69 _ _ hL104
                have f_sum_told := f_sum_told.mono S100
                have f_so := f_so.mono S100
                have f_more := f_more.mono S100
                have h4 := S100 _ _ h4
                have h55 := S100 _ _ h55
                have r56 := r56.mono S100
                have r57 := r57.mono S100
                have h63 := S100 _ _ h63
                have hl64 := hl64.mono S100
                obtain ⟨F106, O107, S108, h109⟩ := O101.frzE 0 rfl z94
                have f_sum_told := f_sum_told.mono S108
                have f_so := f_so.mono S108
                have f_more := f_more.mono S108
                have h4 := S108 _ _ h4
                have h55 := S108 _ _ h55
                have r56 := r56.mono S108
                have r57 := r57.mono S108
                have h63 := S108 _ _ h63
                have hl64 := hl64.mono S108
                have hl102 := hl102.mono S108
                have h110 := R.lst (a := Int) h109 hl102
                obtain ⟨p111, w112, e113, h114, hl115⟩ := R.lst_ h110
                cases e113
                obtain ⟨x116, y117, e118, hk⟩ := wp_two2 hk
                have hl119 : RL (a := Int) F106 w112 [x116, y117] := by rw [← e118]; exact hl115
                obtain ⟨w120, w121, e122, r123, q124⟩ := RL.cons_ hl119
                obtain ⟨w125, w126, e127, r128, q129⟩ := RL.cons_ q124
                rw [e127, RL.nil_ q129] at e122
                obtain rfl := R.int_ r123
                obtain rfl := R.int_ r128
                refine ⟨_, _, rfl, (SqLF O107.s h114), (by rw [e122]; rfl), ?_⟩
                rw [e122]
                refine ⟨_, _, rfl, _, _, rfl, rfl, _, rfl, _, _, R.str, R.str, _, rfl, ?_⟩
                refine iteD (fun q131 => ?_) (fun q131 => ?_)
                · have hk := wp_if hk q131
                  refine ⟨_, rfl, _, rfl, _, _, rfl, rfl, ?_⟩
                  exact hk _ _  O107.g 
                · have hk := wp_el hk q131
                  refine ⟨_, rfl, _, _, R.str, R.str, _, rfl, ?_⟩
                  refine iteD (fun q132 => ?_) (fun q132 => ?_)
                  · have hk := wp_if hk q132
                    refine ⟨_, rfl, _, rfl, _, _, rfl, rfl, ?_⟩
                    exact hk _ _  O107.g 
                  · have hk := wp_el hk q132
                    refine ⟨_, rfl, _, _, R.str, R.str, _, rfl, ?_⟩
                    refine iteD (fun q133 => ?_) (fun q133 => ?_)
                    · have hk := wp_if hk q133
                      obtain ⟨c134, hk⟩ := wp_chk hk
                      refine ⟨_, rfl, _, rfl, _, _, rfl, rfl, c134, ?_⟩
                      exact hk _ _  O107.g 
                    · have hk := wp_el hk q133
                      refine ⟨_, rfl, _, _, R.str, R.str, _, rfl, ?_⟩
                      refine iteD (fun q135 => ?_) (fun q135 => ?_)
                      · have hk := wp_if hk q135
                        refine ⟨_, rfl, _, rfl, _, _, rfl, ?_⟩
                        exact hk _ _  O107.g 
                      · have hk := wp_el hk q135
                        refine ⟨_, rfl, _, rfl, _, _, rfl, ?_⟩
                        exact hk _ _  O107.g 
abbrev s_begun : Stmt := top 18
theorem sc_begun : FnScope ["rule", "own", "one"] ["rule", "own"] (defScope s_begun) := ⟨rfl, rfl, rfl, by decide +kernel, rfl, by decide +kernel, by decide +kernel⟩
def m_begun (x_rule : (T4 (List Sm) (List Sm) (List Sm) Sm)) (x_own : Int) : M ((List Int)) :=
compS (fun (y18 : Sm) (st35 : Unit) =>
m_sum_at 12 y18 x_own (0 : Int) ([] : List Int) ([] : List Int) >>= fun r57 =>
.ok (some r57, ())) x_rule.a () >>= fun q74 =>
.ok q74.1
def sp_begun (mg : Str → Option Value) : Sp := fun vs H Q E => ∃ (F : Hp) (v_rule : V) (x_rule : (T4 (List Sm) (List Sm) (List Sm) Sm)) (x_own : Int), vs = [v_rule, V.int x_own] ∧ Pre F [] H ∧ R (a := (T4 (List Sm) (List Sm) (List Sm) Sm)) F v_rule x_rule ∧
  wp (m_begun x_rule x_own) (fun r => ∀ (F' H' : Hp), Gr [] F H F' H' → ∀ (p : Addr) (w : (List V)), H p = none → F' p = none → H' p = some (.lst w) → RL (a := Int) F' w r → Q (.ref p) H')
  (fun n => ∀ (C : Addr) (H' : Hp), mg (Str.ofString n) = some (.ref C) → Kp [] H H' → E (.ref C) none H')
set_option maxHeartbeats 2000000 in
theorem ok_begun (nb : Nb mg) (C_sum_at : Ca P w K mg base "sum_at" 13 ["sum_told", "own", "tie", "so", "more"] (sp_sum_at 12 mg)) (D : Df K mg "begun" "begun" s_begun ["rule", "own"]) : Ca P w K mg base "begun" 14 ["rule", "own"] (sp_begun mg) := by
  obtain ⟨fa_sum_at, fd_sum_at, G_sum_at, M_sum_at, K_sum_at, B_sum_at⟩ := C_sum_at.ex
  refine Ca.mk' D sc_begun (fun vs H Q E h => ?_) (fun q_ f_ cdv A outer s H vs Q E hr h => ?_)
  · obtain ⟨F, _, _, _, rfl, _⟩ := h
    rfl
  · obtain ⟨F, v_rule, x_rule, x_own, rfl, P0, f_rule, hk⟩ := h
    have nd := sc_begun.nd
    have hu64 := hr.units
    have hu128 := hu128_of hr
    have O := P0.start
    refine ⟨_, (pss_one (ps_ret (pe_lc (own := [("one", 2)]) (g := gName 2) (tt := _) rfl nd (piListK (K := K) rfl (pe_ix (ixTupK (K := K) rfl) (pv 0) pe_int (fun _ _ => rfl))) (blkOk_by (own := [("one", 2)]) (N := ["rule", "own", "one"]) (sc := defScope s_begun) (by decide +kernel)) (fun _ _ _ _ _ => (pg_name (i := 2) nd rfl (Or.inl rfl))) (fun _ _ _ _ _ => pts_nil) (fun _ _ _ _ _ => (pe_call G_sum_at (hr.mono (by decide)) rfl M_sum_at K_sum_at B_sum_at .nil passL (pa_cons (pv 2) (pa_cons (pv 1) (pa_cons pe_int (pa_cons (pe_lst pa_nil) (pa_cons (pe_lst pa_nil) pa_nil)))))))))), ?_⟩
    obtain ⟨p2, v5, v6, v7, v8, e3, h4, r9, r10, r11, r12⟩ := R.t4_ f_rule
    cases e3
    obtain ⟨p13, w14, e15, h16, hl17⟩ := R.lst_ r9
    cases e15
    obtain ⟨c23, L19, hL20, hLs21, hLd22⟩ := compS_L hk
    refine ⟨_, rfl, _, _, _, _, rfl, rfl, (SqTF O.s h4), rfl, _, rfl, ⟨_, (SqLF O.s h16)⟩, fun p24 hp25 => ?_⟩
    have z63 := O.was hp25
    refine lc_list (K := K) (xs := w14) (fun i H => ∃ (F_ : Hp) (st : Unit) (acc : List Int) (wa : List V), Same F F_ ∧ Ow _ F_ [(p24, .lst wa)] H ∧ RL F_ wa acc ∧ wa.length ≤ i ∧ L19 (List.drop i x_rule.a) acc st) ⟨F, (), [], [], Same.refl _, O.new hp25, RL.nil, Nat.zero_le _, hL20⟩ (fun i_ H_ _ hp_ => ?_) ?_ ?_
    · obtain ⟨_, _, _, _, hS_, hO_, _⟩ := hp_
      exact SqLF hO_.s (hS_ _ _ h16)
    · rintro i26 x27 H28 hi29 ⟨F34, st35, acc31, wa32, S36, O38, hl37, la33, hL20⟩
      have f_rule := f_rule.mono S36
      have h4 := S36 _ _ h4
      have r9 := r9.mono S36
      have r10 := r10.mono S36
      have r11 := r11.mono S36
      have r12 := r12.mono S36
      have h16 := S36 _ _ h16
      have hl17 := hl17.mono S36
      obtain ⟨y18, e39, r40⟩ := RL.got hl17 hi29
      rw [drop_at e39] at hL20
      have hk := hLs21 _ _ _ _ hL20
      refine ⟨rfl, ?_⟩
      refine ⟨_, rfl, _, rfl, (by show 0 ≤ sizeLine; decide), fun p41 hp42 => ?_⟩
      have hl48 : RL (a := Int) F34 ([]) ([] : List Int) := RL.nil
      obtain ⟨F43, O44, S45, h46⟩ := O38.putE hp42 (.lst ([]))
      have f_rule := f_rule.mono S45
      have h4 := S45 _ _ h4
      have r9 := r9.mono S45
      have r10 := r10.mono S45
      have r11 := r11.mono S45
      have r12 := r12.mono S45
      have h16 := S45 _ _ h16
      have hl17 := hl17.mono S45
      have S36 := S36.trans S45
      have hl37 := hl37.mono S45
      have r40 := r40.mono S45
      have hl48 := hl48.mono S45
      have h47 := R.lst (a := Int) h46 hl48
      refine ⟨(by show 0 ≤ sizeLine; decide), fun p49 hp50 => ?_⟩
      have hl56 : RL (a := Int) F43 ([]) ([] : List Int) := RL.nil
      obtain ⟨F51, O52, S53, h54⟩ := O44.putE hp50 (.lst ([]))
      have f_rule := f_rule.mono S53
      have h4 := S53 _ _ h4
      have r9 := r9.mono S53
      have r10 := r10.mono S53
      have r11 := r11.mono S53
      have r12 := r12.mono S53
      have h16 := S53 _ _ h16
      have hl17 := hl17.mono S53
      have S36 := S36.trans S53
      have hl37 := hl37.mono S53
      have r40 := r40.mono S53
      have h47 := h47.mono S53
      have hl56 := hl56.mono S53
      have h55 := R.lst (a := Int) h54 hl56
      refine ⟨_, _, _, _, _, _, _, _, _, rfl, O52.pre0, r40, h47, h55, wp_call hk (fun r57 er58 hk F59 H60 g61 => ?_) (fun n hn => hn.elim)⟩
      have O62 := O52.call0 g61
      have S_ := g61.f
      have f_rule := f_rule.mono S_
      have h4 := S_ _ _ h4
      have r9 := r9.mono S_
      have r10 := r10.mono S_
      have r11 := r11.mono S_
      have r12 := r12.mono S_
      have h16 := S_ _ _ h16
      have hl17 := hl17.mono S_
      have S36 := S36.trans S_
      have hl37 := hl37.mono S_
      have r40 := r40.mono S_
      have h47 := h47.mono S_
      have h55 := h55.mono S_
      refine ⟨_, (O62.at 0 rfl), (comp_len la33 hi29 hl17.len c23), ?_⟩
      exact ⟨F59, (), acc31 ++ [r57], wa32 ++ [V.int r57], S36, O62.set 0 (.lst (wa32 ++ [V.int r57])) rfl, RL.snoc hl37 R.int, by rw [List.length_append]; exact Nat.succ_le_succ la33, hk⟩
    rintro H64 ⟨F65, st66, acc67, wa68, S69, O70, hl71, la72, hL73⟩
    rw [drop_end hl17.len] at hL73
    have hk := hLd22 _ _ hL73
    have f_rule := f_rule.mono S69
    have h4 := S69 _ _ h4
    have r9 := r9.mono S69
    have r10 := r10.mono S69
    have r11 := r11.mono S69
    have r12 := r12.mono S69
    have h16 := S69 _ _ h16
    have hl17 := hl17.mono S69
    exact hk _ _  O70.g  _ _ z63 (O70.cf _ (List.mem_of_getElem? (i := 0) rfl)) (O70.at 0 rfl) hl71
abbrev s_joined : Stmt := top 19
theorem sc_joined : FnScope ["rule", "so", "more", "own", "one"] ["rule", "so", "more", "own"] (defScope s_joined) := ⟨rfl, rfl, rfl, by decide +kernel, rfl, by decide +kernel, by decide +kernel⟩
def m_joined (x_rule : (T4 (List Sm) (List Sm) (List Sm) Sm)) (x_so : (List Int)) (x_more : (List Int)) (x_own : Int) : M ((List Int)) :=
compS (fun (y18 : Sm) (st35 : Unit) =>
m_sum_at 12 y18 x_own (0 : Int) x_so x_more >>= fun r41 =>
.ok (some r41, ())) x_rule.c () >>= fun q58 =>
.ok q58.1
def sp_joined (mg : Str → Option Value) : Sp := fun vs H Q E => ∃ (F : Hp) (v_rule : V) (x_rule : (T4 (List Sm) (List Sm) (List Sm) Sm)) (v_so : V) (x_so : (List Int)) (v_more : V) (x_more : (List Int)) (x_own : Int), vs = [v_rule, v_so, v_more, V.int x_own] ∧ Pre F [] H ∧ R (a := (T4 (List Sm) (List Sm) (List Sm) Sm)) F v_rule x_rule ∧ R (a := (List Int)) F v_so x_so ∧ R (a := (List Int)) F v_more x_more ∧
  wp (m_joined x_rule x_so x_more x_own) (fun r => ∀ (F' H' : Hp), Gr [] F H F' H' → ∀ (p : Addr) (w : (List V)), H p = none → F' p = none → H' p = some (.lst w) → RL (a := Int) F' w r → Q (.ref p) H')
  (fun n => ∀ (C : Addr) (H' : Hp), mg (Str.ofString n) = some (.ref C) → Kp [] H H' → E (.ref C) none H')
set_option maxHeartbeats 2000000 in
theorem ok_joined (nb : Nb mg) (C_sum_at : Ca P w K mg base "sum_at" 13 ["sum_told", "own", "tie", "so", "more"] (sp_sum_at 12 mg)) (D : Df K mg "joined" "joined" s_joined ["rule", "so", "more", "own"]) : Ca P w K mg base "joined" 14 ["rule", "so", "more", "own"] (sp_joined mg) := by
  obtain ⟨fa_sum_at, fd_sum_at, G_sum_at, M_sum_at, K_sum_at, B_sum_at⟩ := C_sum_at.ex
  refine Ca.mk' D sc_joined (fun vs H Q E h => ?_) (fun q_ f_ cdv A outer s H vs Q E hr h => ?_)
  · obtain ⟨F, _, _, _, _, _, _, _, rfl, _⟩ := h
    rfl
  · obtain ⟨F, v_rule, x_rule, v_so, x_so, v_more, x_more, x_own, rfl, P0, f_rule, f_so, f_more, hk⟩ := h
    have nd := sc_joined.nd
    have hu64 := hr.units
    have hu128 := hu128_of hr
    have O := P0.start
    refine ⟨_, (pss_one (ps_ret (pe_lc (own := [("one", 4)]) (g := gName 4) (tt := _) rfl nd (piListK (K := K) rfl (pe_ix (ixTupK (K := K) rfl) (pv 0) pe_int (fun _ _ => rfl))) (blkOk_by (own := [("one", 4)]) (N := ["rule", "so", "more", "own", "one"]) (sc := defScope s_joined) (by decide +kernel)) (fun _ _ _ _ _ => (pg_name (i := 4) nd rfl (Or.inl rfl))) (fun _ _ _ _ _ => pts_nil) (fun _ _ _ _ _ => (pe_call G_sum_at (hr.mono (by decide)) rfl M_sum_at K_sum_at B_sum_at .nil passL (pa_cons (pv 4) (pa_cons (pv 3) (pa_cons pe_int (pa_cons (pv 1) (pa_cons (pv 2) pa_nil)))))))))), ?_⟩
    obtain ⟨p2, v5, v6, v7, v8, e3, h4, r9, r10, r11, r12⟩ := R.t4_ f_rule
    cases e3
    obtain ⟨p13, w14, e15, h16, hl17⟩ := R.lst_ r11
    cases e15
    obtain ⟨c23, L19, hL20, hLs21, hLd22⟩ := compS_L hk
    refine ⟨_, rfl, _, _, _, _, rfl, rfl, (SqTF O.s h4), rfl, _, rfl, ⟨_, (SqLF O.s h16)⟩, fun p24 hp25 => ?_⟩
    have z47 := O.was hp25
    refine lc_list (K := K) (xs := w14) (fun i H => ∃ (F_ : Hp) (st : Unit) (acc : List Int) (wa : List V), Same F F_ ∧ Ow _ F_ [(p24, .lst wa)] H ∧ RL F_ wa acc ∧ wa.length ≤ i ∧ L19 (List.drop i x_rule.c) acc st) ⟨F, (), [], [], Same.refl _, O.new hp25, RL.nil, Nat.zero_le _, hL20⟩ (fun i_ H_ _ hp_ => ?_) ?_ ?_
    · obtain ⟨_, _, _, _, hS_, hO_, _⟩ := hp_
      exact SqLF hO_.s (hS_ _ _ h16)
    · rintro i26 x27 H28 hi29 ⟨F34, st35, acc31, wa32, S36, O38, hl37, la33, hL20⟩
      have f_rule := f_rule.mono S36
      have f_so := f_so.mono S36
      have f_more := f_more.mono S36
      have h4 := S36 _ _ h4
      have r9 := r9.mono S36
      have r10 := r10.mono S36
      have r11 := r11.mono S36
      have r12 := r12.mono S36
      have h16 := S36 _ _ h16
      have hl17 := hl17.mono S36
      obtain ⟨y18, e39, r40⟩ := RL.got hl17 hi29
      rw [drop_at e39] at hL20
      have hk := hLs21 _ _ _ _ hL20
      refine ⟨rfl, ?_⟩
      refine ⟨_, rfl, _, rfl, _, rfl, _, rfl, _, _, _, _, _, _, _, _, _, rfl, O38.pre0, r40, f_so, f_more, wp_call hk (fun r41 er42 hk F43 H44 g45 => ?_) (fun n hn => hn.elim)⟩
      have O46 := O38.call0 g45
      have S_ := g45.f
      have f_rule := f_rule.mono S_
      have f_so := f_so.mono S_
      have f_more := f_more.mono S_
      have h4 := S_ _ _ h4
      have r9 := r9.mono S_
      have r10 := r10.mono S_
      have r11 := r11.mono S_
      have r12 := r12.mono S_
      have h16 := S_ _ _ h16
      have hl17 := hl17.mono S_
      have S36 := S36.trans S_
      have hl37 := hl37.mono S_
      have r40 := r40.mono S_
      refine ⟨_, (O46.at 0 rfl), (comp_len la33 hi29 hl17.len c23), ?_⟩
      exact ⟨F43, (), acc31 ++ [r41], wa32 ++ [V.int r41], S36, O46.set 0 (.lst (wa32 ++ [V.int r41])) rfl, RL.snoc hl37 R.int, by rw [List.length_append]; exact Nat.succ_le_succ la33, hk⟩
    rintro H48 ⟨F49, st50, acc51, wa52, S53, O54, hl55, la56, hL57⟩
    rw [drop_end hl17.len] at hL57
    have hk := hLd22 _ _ hL57
    have f_rule := f_rule.mono S53
    have f_so := f_so.mono S53
    have f_more := f_more.mono S53
    have h4 := S53 _ _ h4
    have r9 := r9.mono S53
    have r10 := r10.mono S53
    have r11 := r11.mono S53
    have r12 := r12.mono S53
    have h16 := S53 _ _ h16
    have hl17 := hl17.mono S53
    exact hk _ _  O54.g  _ _ z47 (O54.cf _ (List.mem_of_getElem? (i := 0) rfl)) (O54.at 0 rfl) hl55
abbrev s_over_tie : Stmt := top 20
theorem sc_over_tie : FnScope ["rule", "more", "own", "tie", "one"] ["rule", "more", "own", "tie"] (defScope s_over_tie) := ⟨rfl, rfl, rfl, by decide +kernel, rfl, by decide +kernel, by decide +kernel⟩
def m_over_tie (x_rule : (T4 (List Sm) (List Sm) (List Sm) Sm)) (x_more : (List Int)) (x_own : Int) (x_tie : Int) : M ((List Int)) :=
compS (fun (y18 : Sm) (st35 : Unit) =>
m_sum_at 12 y18 x_own x_tie ([] : List Int) x_more >>= fun r49 =>
.ok (some r49, ())) x_rule.b () >>= fun q66 =>
.ok q66.1
def sp_over_tie (mg : Str → Option Value) : Sp := fun vs H Q E => ∃ (F : Hp) (v_rule : V) (x_rule : (T4 (List Sm) (List Sm) (List Sm) Sm)) (v_more : V) (x_more : (List Int)) (x_own : Int) (x_tie : Int), vs = [v_rule, v_more, V.int x_own, V.int x_tie] ∧ Pre F [] H ∧ R (a := (T4 (List Sm) (List Sm) (List Sm) Sm)) F v_rule x_rule ∧ R (a := (List Int)) F v_more x_more ∧
  wp (m_over_tie x_rule x_more x_own x_tie) (fun r => ∀ (F' H' : Hp), Gr [] F H F' H' → ∀ (p : Addr) (w : (List V)), H p = none → F' p = none → H' p = some (.lst w) → RL (a := Int) F' w r → Q (.ref p) H')
  (fun n => ∀ (C : Addr) (H' : Hp), mg (Str.ofString n) = some (.ref C) → Kp [] H H' → E (.ref C) none H')
set_option maxHeartbeats 2000000 in
theorem ok_over_tie (nb : Nb mg) (C_sum_at : Ca P w K mg base "sum_at" 13 ["sum_told", "own", "tie", "so", "more"] (sp_sum_at 12 mg)) (D : Df K mg "over_tie" "over_tie" s_over_tie ["rule", "more", "own", "tie"]) : Ca P w K mg base "over_tie" 14 ["rule", "more", "own", "tie"] (sp_over_tie mg) := by
  obtain ⟨fa_sum_at, fd_sum_at, G_sum_at, M_sum_at, K_sum_at, B_sum_at⟩ := C_sum_at.ex
  refine Ca.mk' D sc_over_tie (fun vs H Q E h => ?_) (fun q_ f_ cdv A outer s H vs Q E hr h => ?_)
  · obtain ⟨F, _, _, _, _, _, _, rfl, _⟩ := h
    rfl
  · obtain ⟨F, v_rule, x_rule, v_more, x_more, x_own, x_tie, rfl, P0, f_rule, f_more, hk⟩ := h
    have nd := sc_over_tie.nd
    have hu64 := hr.units
    have hu128 := hu128_of hr
    have O := P0.start
    refine ⟨_, (pss_one (ps_ret (pe_lc (own := [("one", 4)]) (g := gName 4) (tt := _) rfl nd (piListK (K := K) rfl (pe_ix (ixTupK (K := K) rfl) (pv 0) pe_int (fun _ _ => rfl))) (blkOk_by (own := [("one", 4)]) (N := ["rule", "more", "own", "tie", "one"]) (sc := defScope s_over_tie) (by decide +kernel)) (fun _ _ _ _ _ => (pg_name (i := 4) nd rfl (Or.inl rfl))) (fun _ _ _ _ _ => pts_nil) (fun _ _ _ _ _ => (pe_call G_sum_at (hr.mono (by decide)) rfl M_sum_at K_sum_at B_sum_at .nil passL (pa_cons (pv 4) (pa_cons (pv 2) (pa_cons (pv 3) (pa_cons (pe_lst pa_nil) (pa_cons (pv 1) pa_nil)))))))))), ?_⟩
    obtain ⟨p2, v5, v6, v7, v8, e3, h4, r9, r10, r11, r12⟩ := R.t4_ f_rule
    cases e3
    obtain ⟨p13, w14, e15, h16, hl17⟩ := R.lst_ r10
    cases e15
    obtain ⟨c23, L19, hL20, hLs21, hLd22⟩ := compS_L hk
    refine ⟨_, rfl, _, _, _, _, rfl, rfl, (SqTF O.s h4), rfl, _, rfl, ⟨_, (SqLF O.s h16)⟩, fun p24 hp25 => ?_⟩
    have z55 := O.was hp25
    refine lc_list (K := K) (xs := w14) (fun i H => ∃ (F_ : Hp) (st : Unit) (acc : List Int) (wa : List V), Same F F_ ∧ Ow _ F_ [(p24, .lst wa)] H ∧ RL F_ wa acc ∧ wa.length ≤ i ∧ L19 (List.drop i x_rule.b) acc st) ⟨F, (), [], [], Same.refl _, O.new hp25, RL.nil, Nat.zero_le _, hL20⟩ (fun i_ H_ _ hp_ => ?_) ?_ ?_
    · obtain ⟨_, _, _, _, hS_, hO_, _⟩ := hp_
      exact SqLF hO_.s (hS_ _ _ h16)
    · rintro i26 x27 H28 hi29 ⟨F34, st35, acc31, wa32, S36, O38, hl37, la33, hL20⟩
      have f_rule := f_rule.mono S36
      have f_more := f_more.mono S36
      have h4 := S36 _ _ h4
      have r9 := r9.mono S36
      have r10 := r10.mono S36
      have r11 := r11.mono S36
      have r12 := r12.mono S36
      have h16 := S36 _ _ h16
      have hl17 := hl17.mono S36
      obtain ⟨y18, e39, r40⟩ := RL.got hl17 hi29
      rw [drop_at e39] at hL20
      have hk := hLs21 _ _ _ _ hL20
      refine ⟨rfl, ?_⟩
      refine ⟨_, rfl, _, rfl, _, rfl, (by show 0 ≤ sizeLine; decide), fun p41 hp42 => ?_⟩
      have hl48 : RL (a := Int) F34 ([]) ([] : List Int) := RL.nil
      obtain ⟨F43, O44, S45, h46⟩ := O38.putE hp42 (.lst ([]))
      have f_rule := f_rule.mono S45
      have f_more := f_more.mono S45
      have h4 := S45 _ _ h4
      have r9 := r9.mono S45
      have r10 := r10.mono S45
      have r11 := r11.mono S45
      have r12 := r12.mono S45
      have h16 := S45 _ _ h16
      have hl17 := hl17.mono S45
      have S36 := S36.trans S45
      have hl37 := hl37.mono S45
      have r40 := r40.mono S45
      have hl48 := hl48.mono S45
      have h47 := R.lst (a := Int) h46 hl48
      refine ⟨_, rfl, _, _, _, _, _, _, _, _, _, rfl, O44.pre0, r40, h47, f_more, wp_call hk (fun r49 er50 hk F51 H52 g53 => ?_) (fun n hn => hn.elim)⟩
      have O54 := O44.call0 g53
      have S_ := g53.f
      have f_rule := f_rule.mono S_
      have f_more := f_more.mono S_
      have h4 := S_ _ _ h4
      have r9 := r9.mono S_
      have r10 := r10.mono S_
      have r11 := r11.mono S_
      have r12 := r12.mono S_
      have h16 := S_ _ _ h16
      have hl17 := hl17.mono S_
      have S36 := S36.trans S_
      have hl37 := hl37.mono S_
      have r40 := r40.mono S_
      have h47 := h47.mono S_
      refine ⟨_, (O54.at 0 rfl), (comp_len la33 hi29 hl17.len c23), ?_⟩
      exact ⟨F51, (), acc31 ++ [r49], wa32 ++ [V.int r49], S36, O54.set 0 (.lst (wa32 ++ [V.int r49])) rfl, RL.snoc hl37 R.int, by rw [List.length_append]; exact Nat.succ_le_succ la33, hk⟩
    rintro H56 ⟨F57, st58, acc59, wa60, S61, O62, hl63, la64, hL65⟩
    rw [drop_end hl17.len] at hL65
    have hk := hLd22 _ _ hL65
    have f_rule := f_rule.mono S61
    have f_more := f_more.mono S61
    have h4 := S61 _ _ h4
    have r9 := r9.mono S61
    have r10 := r10.mono S61
    have r11 := r11.mono S61
    have r12 := r12.mono S61
    have h16 := S61 _ _ h16
    have hl17 := hl17.mono S61
    exact hk _ _  O62.g  _ _ z55 (O62.cf _ (List.mem_of_getElem? (i := 0) rfl)) (O62.at 0 rfl) hl63
abbrev s_told_by : Stmt := top 21
theorem sc_told_by : FnScope ["rule", "so", "own"] ["rule", "so", "own"] (defScope s_told_by) := ⟨rfl, rfl, rfl, by decide +kernel, rfl, by decide +kernel, by decide +kernel⟩
def m_told_by (x_rule : (T4 (List Sm) (List Sm) (List Sm) Sm)) (x_so : (List Int)) (x_own : Int) : M (Int) :=
m_sum_at 12 x_rule.d x_own (0 : Int) x_so ([] : List Int) >>= fun r20 =>
.ok r20
def sp_told_by (mg : Str → Option Value) : Sp := fun vs H Q E => ∃ (F : Hp) (v_rule : V) (x_rule : (T4 (List Sm) (List Sm) (List Sm) Sm)) (v_so : V) (x_so : (List Int)) (x_own : Int), vs = [v_rule, v_so, V.int x_own] ∧ Pre F [] H ∧ R (a := (T4 (List Sm) (List Sm) (List Sm) Sm)) F v_rule x_rule ∧ R (a := (List Int)) F v_so x_so ∧
  wp (m_told_by x_rule x_so x_own) (fun r => ∀ (F' H' : Hp), Gr [] F H F' H' → Q (V.int r) H')
  (fun n => ∀ (C : Addr) (H' : Hp), mg (Str.ofString n) = some (.ref C) → Kp [] H H' → E (.ref C) none H')
set_option maxHeartbeats 2000000 in
theorem ok_told_by (nb : Nb mg) (C_sum_at : Ca P w K mg base "sum_at" 13 ["sum_told", "own", "tie", "so", "more"] (sp_sum_at 12 mg)) (D : Df K mg "told_by" "told_by" s_told_by ["rule", "so", "own"]) : Ca P w K mg base "told_by" 14 ["rule", "so", "own"] (sp_told_by mg) := by
  obtain ⟨fa_sum_at, fd_sum_at, G_sum_at, M_sum_at, K_sum_at, B_sum_at⟩ := C_sum_at.ex
  refine Ca.mk' D sc_told_by (fun vs H Q E h => ?_) (fun q_ f_ cdv A outer s H vs Q E hr h => ?_)
  · obtain ⟨F, _, _, _, _, _, rfl, _⟩ := h
    rfl
  · obtain ⟨F, v_rule, x_rule, v_so, x_so, x_own, rfl, P0, f_rule, f_so, hk⟩ := h
    have nd := sc_told_by.nd
    have hu64 := hr.units
    have hu128 := hu128_of hr
    have O := P0.start
    refine ⟨_, (pss_one (ps_ret (pe_call G_sum_at (hr.mono (by decide)) rfl M_sum_at K_sum_at B_sum_at .nil (passes_call (takes_of rfl rfl rfl rfl) fun _ _ _ _ h => h) (pa_cons (pe_ix (ixTupK (K := K) rfl) (pv 0) pe_int (fun _ _ => rfl)) (pa_cons (pv 2) (pa_cons pe_int (pa_cons (pv 1) (pa_cons (pe_lst pa_nil) pa_nil)))))))), ?_⟩
    obtain ⟨p1, v4, v5, v6, v7, e2, h3, r8, r9, r10, r11⟩ := R.t4_ f_rule
    cases e2
    refine ⟨_, rfl, _, _, _, _, rfl, rfl, (SqTF O.s h3), rfl, _, rfl, _, rfl, (by show 0 ≤ sizeLine; decide), fun p12 hp13 => ?_⟩
    have hl19 : RL (a := Int) F ([]) ([] : List Int) := RL.nil
    obtain ⟨F14, O15, S16, h17⟩ := O.putE hp13 (.lst ([]))
    have f_rule := f_rule.mono S16
    have f_so := f_so.mono S16
    have h3 := S16 _ _ h3
    have r8 := r8.mono S16
    have r9 := r9.mono S16
    have r10 := r10.mono S16
    have r11 := r11.mono S16
    have hl19 := hl19.mono S16
    have h18 := R.lst (a := Int) h17 hl19
    refine ⟨_, _, _, _, _, _, _, _, _, rfl, O15.pre0, r11, f_so, h18, wp_call hk (fun r20 er21 hk F22 H23 g24 => ?_) (fun n hn C H1 hC kp => hn C H1 hC (O15.kp0 kp))⟩
    have O25 := O15.call0 g24
    have S_ := g24.f
    have f_rule := f_rule.mono S_
    have f_so := f_so.mono S_
    have h3 := S_ _ _ h3
    have r8 := r8.mono S_
    have r9 := r9.mono S_
    have r10 := r10.mono S_
    have r11 := r11.mono S_
    have h18 := h18.mono S_
    exact hk _ _  O25.g 
abbrev s_tied_places : Stmt := top 23
theorem sc_tied_places : FnScope ["many", "ties", "found", "a", "b", "length", "near", "place"] ["many", "ties"] (defScope s_tied_places) := ⟨rfl, rfl, rfl, by decide +kernel, rfl, by decide +kernel, by decide +kernel⟩
def addAt (fs : List (List Int)) (a b : Int) : M (List (List Int)) := match ixN fs.length a with
  | some j => (match fs[j]? with
    | some x => appL x b >>= fun y => .ok (fs.set j y)
    | none => bad)
  | none => bad
def m_tied_places (x_many : Int) (x_ties : List (T3 Int Int Int)) : M (List (List Int)) :=
  chk (okR x_many) >>= fun _ =>
  loopN (fun (t : T3 Int Int Int) (fs : List (List Int)) => addAt fs t.a t.b >>= fun f1 => addAt f1 t.b t.a) (sortT x_ties) (List.replicate x_many.toNat []) >>= fun fs =>
  .ok (fs.map sortT)
theorem wp_addAt {b : Type} {Q : b → Prop} {E : String → Prop} {fs : List (List Int)} {a y : Int} {k : List (List Int) → M b} (h : wp (addAt fs a y >>= k) Q E) :
    ∃ j x, ixN fs.length a = some j ∧ fs[j]? = some x ∧ x.length < sizeLine ∧ wp (k (fs.set j (x ++ [y]))) Q E := by
  unfold addAt at h
  cases e : ixN fs.length a with
  | none => rw [e] at h; exact h.elim
  | some j =>
    rw [e] at h
    have h : wp ((match fs[j]? with
      | some x => appL x y >>= fun y => .ok (fs.set j y)
      | none => bad) >>= k) Q E := h
    cases e2 : fs[j]? with
    | none => rw [e2] at h; exact h.elim
    | some x =>
      rw [e2] at h
      have h : wp ((appL x y >>= fun y => .ok (fs.set j y)) >>= k) Q E := h
      rw [wp_bind] at h
      obtain ⟨c, h⟩ := wp_appL h
      exact ⟨j, x, rfl, e2, c, h⟩
/-- all lists are new -/
def sp_tied_places_own (mg : Str → Option Value) : Sp := fun vs H Q E => ∃ (F : Hp) (x_many : Int) (v_ties : V) (x_ties : List (T3 Int Int Int)), vs = [.int x_many, v_ties] ∧ Pre F [] H ∧ R F v_ties x_ties ∧
  wp (m_tied_places x_many x_ties) (fun r => ∀ (F' H' : Hp) (p : Addr) (ps : List LC), Gr [] F H F' H' → OwnLL H F' H' p ps → ps.map (·.2) = r → Q (.ref p) H')
  (fun n => ∀ (C : Addr) (H' : Hp), mg (Str.ofString n) = some (.ref C) → Kp [] H H' → E (.ref C) none H')
def sp_tied_places (mg : Str → Option Value) : Sp := fun vs H Q E => ∃ (F : Hp) (x_many : Int) (v_ties : V) (x_ties : (List (T3 Int Int Int))), vs = [.int x_many, v_ties] ∧ Pre F [] H ∧ R (a := (List (T3 Int Int Int))) F v_ties x_ties ∧
  wp (m_tied_places x_many x_ties) (fun r => ∀ (F' H' : Hp), Gr [] F H F' H' → ∀ (p : Addr) (w : List V), H p = none → F' p = none → H' p = some (.lst w) → RL (a := (List Int)) F' w r → Q (.ref p) H')
  (fun n => ∀ (C : Addr) (H' : Hp), mg (Str.ofString n) = some (.ref C) → Kp [] H H' → E (.ref C) none H')
theorem lc_set {ps : List LC} {j : Nat} {c : LC} {y : List Int} (h : ps[j]? = some c) : (ps.set j (c.1, y)).map (·.1) = ps.map (·.1) ∧ (ps.set j (c.1, y)).map (·.2) = (ps.map (·.2)).set j y := by
  refine ⟨?_, by rw [List.map_set]⟩
  rw [List.map_set]
  refine List.ext_getElem? fun k => ?_
  by_cases hk : j = k
  · subst hk
    have hl := (List.getElem?_eq_some_iff.mp h).1
    rw [List.getElem?_set_self (by simpa using hl), List.getElem?_map, h]
    rfl
  · rw [List.getElem?_set_ne hk]
/-- one append -/
theorem tp_app {Z : Ent} {F H : Hp} {D : Addr} {o : HO} {rest : List (Addr × HO)} {ps : List LC} (O : Ow Z F ((D, o) :: ps.map lcell) H) {j : Nat} {c : LC} (h : ps[j]? = some c) (y : Int) :
    Ow Z F ((D, o) :: (ps.set j (c.1, c.2 ++ [y])).map lcell) (upd H c.1 (.lst (c.2.map V.int ++ [V.int y]))) ∧ H c.1 = some (.lst (c.2.map V.int)) := by
  have e : ((D, o) :: ps.map lcell)[j + 1]? = some (c.1, .lst (c.2.map V.int)) := by
    rw [List.getElem?_cons_succ, List.getElem?_map, h]
    rfl
  refine ⟨?_, O.at (j + 1) e⟩
  have q := O.set (j + 1) (.lst (c.2.map V.int ++ [V.int y])) e
  have e2 : ((D, o) :: ps.map lcell).set (j + 1) (c.1, .lst (c.2.map V.int ++ [V.int y])) = (D, o) :: (ps.set j (c.1, c.2 ++ [y])).map lcell := by
    rw [List.set_cons_succ, List.map_set]
    unfold lcell
    rw [List.map_append]
    rfl
  rw [e2] at q
  exact q
theorem tp_at {ps : List LC} {j : Nat} {x : List Int} (h : (ps.map (·.2))[j]? = some x) : ∃ c, ps[j]? = some c ∧ c.2 = x := by
  rw [List.getElem?_map] at h
  cases e : ps[j]? with
  | none => rw [e] at h; cases h
  | some c => rw [e] at h; exact ⟨c, rfl, Option.some.inj h⟩
theorem tp_ix {ps : List LC} {a : Int} {j : Nat} {c : LC} (e : ixN (ps.map (·.2)).length a = some j) (h : ps[j]? = some c) : atI (lrefs ps) a = some (.ref c.1) := by
  unfold atI lrefs
  rw [List.length_map] at e ⊢
  rw [e]
  show (lrefs ps)[j]? = _
  rw [List.getElem?_map, h]
  rfl
set_option maxHeartbeats 4000000 in
theorem ok_tied_places_own (nb : Nb mg) (D : Df K mg "tied_places" "tied_places" s_tied_places ["many", "ties"]) : Ca P w K mg base "tied_places" 1 ["many", "ties"] (sp_tied_places_own mg) := by
  refine Ca.mk' D sc_tied_places (fun vs H Q E h => ?_) (fun q_ f_ cdv A outer s H vs Q E hr h => ?_)
  · obtain ⟨F, _, _, _, rfl, _⟩ := h
    rfl
  · obtain ⟨F, x_many, v_ties, x_ties, rfl, P0, f_ties, hk⟩ := h
    have nd := sc_tied_places.nd
    have hu128 := hu128_of hr
    have O := P0.start
    refine ⟨_, pss_cons (ps_setLc (i := 2) (own := [("place", 7)]) (g := _) (tt := _) rfl nd rfl rfl (sw_true rfl rfl rfl (by decide +kernel)) (pi_range1 rfl nb.b_range (pa_cons (pv 0) pa_nil))
        (blkOk_by (own := [("place", 7)]) (N := ["many", "ties", "found", "a", "b", "length", "near", "place"]) (sc := defScope s_tied_places) (by decide +kernel)) (fun _ _ _ _ _ => (pg_name (i := 7) nd rfl (Or.inl rfl))) (fun _ _ _ _ _ => pts_nil) (fun _ _ _ _ _ => pe_lst pa_nil))
      (pss_cons (ps_for (passes_of rfl) rfl (pi_list (pe_callB (cr_sortedT (T3 Int Int Int) hu128) (by rfl) nb.b_sorted (by decide +kernel) (pa_cons (pv 1) pa_nil)))
        (pg_tup rfl (pgs_cons (pg_name (i := 3) nd rfl (Or.inl rfl)) (pgs_cons (pg_name (i := 4) nd rfl (Or.inl rfl)) (pgs_cons (pg_name (i := 5) nd rfl (Or.inl rfl)) pgs_nil))))
        (pss_cons (ps_expr (pe_bm PySem.F.plainAttrs_list PySem.F.slot_list_append PySem.F.type_list_append mt_append (pe_ix ix_list (pv 2) (pv 3) (fun _ _ => rfl)) (pa_cons (pv 4) pa_nil)))
          (pss_one (ps_expr (pe_bm PySem.F.plainAttrs_list PySem.F.slot_list_append PySem.F.type_list_append mt_append (pe_ix ix_list (pv 2) (pv 4) (fun _ _ => rfl)) (pa_cons (pv 3) pa_nil))))))
      (pss_one (ps_ret (pe_lc (own := [("near", 6)]) (g := _) (tt := _) rfl nd (pi_list (pv 2))
        (blkOk_by (own := [("near", 6)]) (N := ["many", "ties", "found", "a", "b", "length", "near", "place"]) (sc := defScope s_tied_places) (by decide +kernel)) (fun _ _ _ _ _ => (pg_name (i := 6) nd rfl (Or.inl rfl))) (fun _ _ _ _ _ => pts_nil)
        (fun _ _ _ _ _ => pe_callB (cr_sortedT Int hu128) (by rfl) nb.b_sorted (by decide +kernel) (pa_cons (pv 6) pa_nil)))))), ?_⟩
    obtain ⟨c1, hk⟩ := wp_chk hk
    obtain ⟨L, hL, hLs, hLd⟩ := loopN_L hk
    refine ⟨_, rfl, _, rfl, c1.lo, c1.hi, fun D hD => ?_⟩
    refine lc_range (lo := 0) (n := x_many.toNat) (fun i H => ∃ ps : List LC, Ow _ F ((D, .lst (lrefs ps)) :: ps.map lcell) H ∧ ps.map (·.2) = List.replicate i []) ⟨[], O.new hD, rfl⟩ ?_ ?_
    · rintro i H1 hi ⟨ps, O1, e1⟩
      refine ⟨rfl, (by show 0 ≤ sizeLine; decide), fun q hq => ?_⟩
      have O2 := O1.new (o := .lst []) hq
      have hlen : ps.length = i := by
        have := congrArg List.length e1
        simpa using this
      have b := c1.2
      refine ⟨_, O2.at 1 rfl, lt_line (by rw [List.length_map]; omega), ps ++ [(q, [])], ?_, by rw [List.map_append, e1, List.replicate_succ']; rfl⟩
      have O3 := O2.set 1 (.lst ((lrefs ps) ++ [V.ref q])) rfl
      have ea : lrefs (ps ++ [(q, [])]) = lrefs ps ++ [V.ref q] := List.map_append
      rw [ea, List.map_append]
      refine O3.perm ?_
      show ((q, HO.lst []) :: (D, _) :: ps.map lcell).Perm ((D, _) :: (ps.map lcell ++ [(q, HO.lst [])]))
      refine (List.Perm.swap _ _ _).trans (List.Perm.cons _ ?_)
      exact (List.perm_append_comm (l₁ := [(q, HO.lst [])]) (l₂ := ps.map lcell))
    · rintro H1 ⟨ps, O1, e1⟩
      obtain ⟨p1, w1, e2, h2, hl2⟩ := R.lst_ f_ties
      cases e2
      refine ⟨_, rfl, _, _, _, rfl, O1.s _ _ h2, RL.mono hl2 O1.s, fun p3 hp3 => ?_⟩
      obtain ⟨F4, O4, S4, h4⟩ := O1.putE hp3 (.lst (sortV w1 x_ties))
      have hl4 := (RL.sorted hl2).mono S4
      refine ⟨_, rfl, ⟨_, SqLF O4.s h4⟩, ?_⟩
      rw [← e1] at hL
      refine for_list (K := K) (xs := sortV w1 x_ties) (fun i σ H => ∃ (ps' : List LC) (t3 t4 t5 : Option V), σ = [some (V.int x_many), some (V.ref p1), some (V.ref D), t3, t4, t5, none, none] ∧ Ow _ F4 ((D, .lst (lrefs ps')) :: ps'.map lcell) H ∧ ps'.length = x_many.toNat ∧ L (List.drop i (sortT x_ties)) (ps'.map fun (c : LC) => c.2))
        ⟨ps, none, none, none, rfl, O4, (by have := congrArg List.length e1; simpa using this), hL⟩ (fun i_ σ_ H_ _ hp_ => ?_) ?_ ?_
      · obtain ⟨_, _, _, _, _, hO_, _⟩ := hp_
        exact SqLF hO_.s h4
      · rintro i x σ H5 hi ⟨ps', t3, t4, t5, rfl, O5, hl5, hL5⟩
        obtain ⟨y, ey, hy⟩ := RL.got hl4 hi
        rw [drop_at ey] at hL5
        have hk := hLs _ _ _ hL5
        obtain ⟨p6, v1, v2, v3, e6, h6, r1, r2, r3⟩ := R.t3_ hy
        cases e6
        obtain rfl := R.int_ r1
        obtain rfl := R.int_ r2
        obtain rfl := R.int_ r3
        obtain ⟨j, x, ej, ex, cl, hk⟩ := wp_addAt hk
        have hk := wp_bind (k := fun r => Except.ok r) |>.mpr hk
        obtain ⟨j2, x2, ej2, ex2, cl2, hk⟩ := wp_addAt hk
        obtain ⟨c, hc, rfl⟩ := tp_at ex
        obtain ⟨O6, hq6⟩ := tp_app (rest := []) O5 hc y.b
        obtain ⟨l1, l2⟩ := lc_set (y := c.2 ++ [y.b]) hc
        rw [← l2] at ex2 ej2
        obtain ⟨c', hc', rfl⟩ := tp_at ex2
        obtain ⟨O7, hq7⟩ := tp_app (rest := []) O6 hc' y.a
        obtain ⟨l3, l4⟩ := lc_set (y := c'.2 ++ [y.a]) hc'
        have eD : lrefs (ps'.set j (c.1, c.2 ++ [y.b])) = lrefs ps' := by
          have := congrArg (List.map V.ref) l1
          rw [List.map_map, List.map_map] at this
          exact this
        have eD2 : lrefs ((ps'.set j (c.1, c.2 ++ [y.b])).set j2 (c'.1, c'.2 ++ [y.a])) = lrefs (ps'.set j (c.1, c.2 ++ [y.b])) := by
          have := congrArg (List.map V.ref) l3
          rw [List.map_map, List.map_map] at this
          exact this
        have i2 : atI (lrefs ps') y.b = some (.ref c'.1) := by
          rw [← eD]
          exact tp_ix ej2 hc'
        refine ⟨_, _, rfl, SqTF O5.s h6, rfl, _, _, rfl, _, _, rfl, _, _, rfl, rfl, _, rfl, _, rfl, _, _, _, _, rfl, rfl, SqL.of (O5.at 0 rfl), tp_ix ej hc, .inl ⟨rfl, _, SqL.of hq6⟩, _, rfl, _, _, _, rfl, rfl, hq6, by rw [List.length_map]; exact cl, ?_⟩
        refine ⟨_, rfl, _, rfl, _, _, _, _, rfl, rfl, SqL.of (O6.at 0 rfl), i2, .inl ⟨rfl, _, SqL.of hq7⟩, _, rfl, _, _, _, rfl, rfl, hq7, by rw [List.length_map]; exact cl2, ?_⟩
        refine ⟨_, _, _, _, rfl, by rw [eD2, eD]; exact O7, by rw [List.length_set, List.length_set]; exact hl5, ?_⟩
        rw [l4, l2]
        exact hk
      · rintro σ H5 ⟨ps', t3, t4, t5, rfl, O5, hl5, hL5⟩
        rw [drop_end hl4.len] at hL5
        have hk := hLd _ hL5
        refine ⟨_, rfl, _, rfl, ⟨_, SqL.of (O5.at 0 rfl)⟩, fun D2 hD2 => ?_⟩
        have b1 := c1.2
        refine lc_list (K := K) (xs := lrefs ps') (fun i H => ∃ qs : List LC, Ow _ F4 ((D2, .lst (lrefs qs)) :: (qs.map lcell ++ ((D, .lst (lrefs ps')) :: ps'.map lcell))) H ∧ qs.map (·.2) = ((ps'.map (·.2)).take i).map sortT)
          ⟨[], O5.new hD2, by simp⟩ (fun i_ H_ _ hp_ => ?_) ?_ ?_
        · obtain ⟨qs, hO_, _⟩ := hp_
          exact SqL.of (hO_.ch (D, _) (List.mem_cons_of_mem _ (List.mem_append_right _ List.mem_cons_self)))
        · rintro i x H6 hi ⟨qs, O6, e6⟩
          obtain ⟨c, hc, rfl⟩ : ∃ c, ps'[i]? = some c ∧ x = V.ref c.1 := by
            have hi : (ps'.map fun (c : LC) => V.ref c.1)[i]? = some x := hi
            rw [List.getElem?_map] at hi
            cases e : ps'[i]? with
            | none => rw [e] at hi; cases hi
            | some c => rw [e] at hi; exact ⟨c, rfl, (Option.some.inj hi).symm⟩
          have hm : lcell c ∈ ps'.map lcell := List.mem_map.mpr ⟨c, List.mem_of_getElem? hc, rfl⟩
          have hq := O6.ch (lcell c) (List.mem_cons_of_mem _ (List.mem_append_right _ (List.mem_cons_of_mem _ hm)))
          have hil := (List.getElem?_eq_some_iff.mp hc).1
          have hql : qs.length ≤ i := by
            have := congrArg List.length e6
            simp at this
            omega
          have es : sortV (c.2.map V.int) c.2 = (sortT c.2).map V.int := (RL.sorted (H := F) RL.of_ints).ints
          refine ⟨rfl, _, rfl, _, _, c.2, rfl, hq, RL.of_ints, fun p hp => ?_⟩
          have O7 := O6.new (o := .lst (sortV (c.2.map V.int) c.2)) hp
          refine ⟨_, O7.at 1 rfl, lt_line (by rw [List.length_map]; omega), qs ++ [(p, sortT c.2)], ?_, ?_⟩
          · have O8 := O7.set 1 (.lst (lrefs qs ++ [V.ref p])) rfl
            have ea : lrefs (qs ++ [(p, sortT c.2)]) = lrefs qs ++ [V.ref p] := List.map_append
            rw [ea, List.map_append]
            refine O8.perm ?_
            rw [es]
            show ((p, HO.lst _) :: (D2, _) :: (qs.map lcell ++ _)).Perm ((D2, _) :: (qs.map lcell ++ [(p, HO.lst _)] ++ _))
            refine (List.Perm.swap _ _ _).trans (List.Perm.cons _ ?_)
            rw [List.append_assoc]
            exact List.perm_middle.symm
          · rw [List.map_append, e6]
            have e7 : (ps'.map (·.2))[i]? = some c.2 := by rw [List.getElem?_map, hc]; rfl
            rw [List.take_succ, e7, List.map_append]
            rfl
        · rintro H6 ⟨qs, O6, e6⟩
          have el : (lrefs ps').length = (ps'.map (·.2)).length := by rw [List.length_map, List.length_map]
          rw [el, List.take_length] at e6
          have hsub : ∀ c ∈ qs, lcell c ∈ (D2, HO.lst (lrefs qs)) :: (qs.map lcell ++ ((D, .lst (lrefs ps')) :: ps'.map lcell)) := fun c hc => List.mem_cons_of_mem _ (List.mem_append_left _ (List.mem_map.mpr ⟨c, hc, rfl⟩))
          have nas : ∀ b : Addr, ¬ b ∈ ([] : List Addr) := fun b h => nomatch h
          refine hk F4 H6 D2 qs O6.g ⟨O5.was hD2, O6.cf _ List.mem_cons_self, O6.ch _ List.mem_cons_self, fun c hc => (O6.ca _ (hsub c hc)).resolve_left (nas _), fun c hc => O6.cf _ (hsub c hc), fun c hc => O6.ch _ (hsub c hc), ?_⟩ e6
          have n := O6.nd
          rw [List.map_cons, List.map_append, List.nodup_cons, List.nodup_append] at n
          rw [List.nodup_cons]
          have em : (qs.map lcell).map (·.1) = qs.map (·.1) := by
            rw [List.map_map]
            rfl
          rw [em] at n
          exact ⟨fun h => n.1 (List.mem_append_left _ h), n.2.1⟩
theorem ok_tied_places (nb : Nb mg) (D : Df K mg "tied_places" "tied_places" s_tied_places ["many", "ties"]) : Ca P w K mg base "tied_places" 1 ["many", "ties"] (sp_tied_places mg) := by
  refine FnOk.impC (ok_tied_places_own nb D) fun vs H Q E h => ?_
  obtain ⟨F, x_many, v_ties, x_ties, rfl, P0, f_ties, hk⟩ := h
  refine ⟨F, x_many, v_ties, x_ties, rfl, P0, f_ties, wp_mono hk fun r k F' H' p ps g L e => ?_⟩
  obtain ⟨F2, g2, n2, rl⟩ := L.frz g
  rw [e] at rl
  exact k F2 H' g2 p _ L.pn n2 L.ph rl

abbrev s_need_place : Stmt := top 24
theorem sc_need_place : FnScope ["tree", "place"] ["tree", "place"] (defScope s_need_place) := ⟨rfl, rfl, rfl, by decide +kernel, rfl, by decide +kernel, by decide +kernel⟩
def m_need_place (x_tree : ((List Int) × (List (T3 Int Int Int)))) (x_place : Int) : M (Unit) :=
if (0 : Int) ≤ x_place then (
if x_place < (x_tree.1.length : Int) then (
.ok ())
else (
raise "NoPlace"))
else (
raise "NoPlace")
def sp_need_place (mg : Str → Option Value) : Sp := fun vs H Q E => ∃ (F : Hp) (v_tree : V) (x_tree : ((List Int) × (List (T3 Int Int Int)))) (x_place : Int), vs = [v_tree, V.int x_place] ∧ Pre F [] H ∧ R (a := ((List Int) × (List (T3 Int Int Int)))) F v_tree x_tree ∧
  wp (m_need_place x_tree x_place) (fun r => ∀ (F' H' : Hp), Gr [] F H F' H' → Q .non H')
  (fun n => ∀ (C : Addr) (H' : Hp), mg (Str.ofString n) = some (.ref C) → Kp [] H H' → E (.ref C) none H')
set_option maxHeartbeats 2000000 in
theorem ok_need_place (nb : Nb mg) (E_NoPlace : ∃ C, Xc K mg "NoPlace" C) (D : Df K mg "need_place" "need_place" s_need_place ["tree", "place"]) : Ca P w K mg base "need_place" 1 ["tree", "place"] (sp_need_place mg) := by
  obtain ⟨XC_NoPlace, X_NoPlace⟩ := E_NoPlace
  refine Ca.mk' D sc_need_place (fun vs H Q E h => ?_) (fun q_ f_ cdv A outer s H vs Q E hr h => ?_)
  · obtain ⟨F, _, _, _, rfl, _⟩ := h
    rfl
  · obtain ⟨F, v_tree, x_tree, x_place, rfl, P0, f_tree, hk⟩ := h
    have nd := sc_need_place.nd
    have hu64 := hr.units
    have hu128 := hu128_of hr
    have O := P0.start
    refine ⟨_, (pss_one (ps_if (pt_not (pt_chain op_le op_lt pe_int (pv 1) (pe_callB call_lenT (by rfl) nb.b_len PySem.boot_len (pa_cons (pe_ix (ixTupK (K := K) rfl) (pv 0) pe_int (fun _ _ => rfl)) pa_nil)))) (pss_one (ps_raise rfl (takes_of rfl rfl rfl rfl) (pmk_own PySem.F.excBase_ValueError X_NoPlace.x X_NoPlace.g X_NoPlace.k (raises_own X_NoPlace.b X_NoPlace.t) rfl))) pss_nil)), ?_⟩
    refine ⟨_, rfl, _, _, rfl, rfl, _, rfl, ?_⟩
    refine iteD (fun q1 => ?_) (fun q1 => ?_)
    · have hk := wp_if hk q1
      obtain ⟨p2, v5, v6, e3, h4, r7, r8⟩ := R.t2_ f_tree
      cases e3
      obtain ⟨p9, w10, e11, h12, hl13⟩ := R.lst_ r7
      cases e11
      refine ⟨_, rfl, _, _, _, _, rfl, rfl, (SqTF O.s h4), rfl, _, _, _, rfl, (.inl (O.s _ _ h12)), hl13.len, _, _, rfl, rfl, _, rfl, ?_⟩
      refine iteN (fun q14 => ?_) (fun q14 => ?_)
      · have hk := wp_if hk q14
        exact hk _ _  O.g 
      · have hk := wp_el hk q14
        exact hk _ _ X_NoPlace.g O.kp
    · have hk := wp_el hk q1
      refine ⟨_, rfl, ?_⟩
      refine iteNF ?_
      exact hk _ _ X_NoPlace.g O.kp
abbrev s_lengths_of : Stmt := top 25
theorem sc_lengths_of : FnScope ["tree", "found", "a", "b", "length"] ["tree"] (defScope s_lengths_of) := ⟨rfl, rfl, rfl, by decide +kernel, rfl, by decide +kernel, by decide +kernel⟩
def m_lengths_of (x_tree : ((List Int) × (List (T3 Int Int Int)))) : M ((List ((Int × Int) × Int))) :=
loopN (fun (y19 : (T3 Int Int Int)) (st30 : (List ((Int × Int) × Int))) =>
putD st30 ((y19.a, y19.b).1, (y19.a, y19.b).2) y19.c >>= fun z64 =>
putD z64 ((y19.b, y19.a).1, (y19.b, y19.a).2) y19.c >>= fun z82 =>
.ok z82) x_tree.2 ([] : (List ((Int × Int) × Int))) >>= fun st88 =>
.ok st88
def sp_lengths_of (mg : Str → Option Value) : Sp := fun vs H Q E => ∃ (F : Hp) (v_tree : V) (x_tree : ((List Int) × (List (T3 Int Int Int)))), vs = [v_tree] ∧ Pre F [] H ∧ R (a := ((List Int) × (List (T3 Int Int Int)))) F v_tree x_tree ∧
  wp (m_lengths_of x_tree) (fun r => ∀ (F' H' : Hp), Gr [] F H F' H' → ∀ v : V, RDv (κ := (Int × Int)) (β := Int) F' v r → Q v H')
  (fun n => ∀ (C : Addr) (H' : Hp), mg (Str.ofString n) = some (.ref C) → Kp [] H H' → E (.ref C) none H')
set_option maxHeartbeats 2000000 in
theorem ok_lengths_of (nb : Nb mg) (D : Df K mg "lengths_of" "lengths_of" s_lengths_of ["tree"]) : Ca P w K mg base "lengths_of" 1 ["tree"] (sp_lengths_of mg) := by
  refine Ca.mk' D sc_lengths_of (fun vs H Q E h => ?_) (fun q_ f_ cdv A outer s H vs Q E hr h => ?_)
  · obtain ⟨F, _, _, rfl, _⟩ := h
    rfl
  · obtain ⟨F, v_tree, x_tree, rfl, P0, f_tree, hk⟩ := h
    have nd := sc_lengths_of.nd
    have hu64 := hr.units
    have hu128 := hu128_of hr
    have O := P0.start
    refine ⟨_, (pss_cons (ps_set (i := 1) nd rfl (Or.inl rfl) pe_dnewT)
  (pss_cons (ps_for (passes_of rfl) rfl (piListK (K := K) rfl (pe_ix (ixTupK (K := K) rfl) (pv 0) pe_int (fun _ _ => rfl))) (pg_tup rfl (pgs_cons (pg_name (i := 2) nd rfl (Or.inl rfl)) (pgs_cons (pg_name (i := 3) nd rfl (Or.inl rfl)) (pgs_cons (pg_name (i := 4) nd rfl (Or.inl rfl)) pgs_nil)))) (pss_cons (ps_dput (u1_of hu64) (pv 1) (pe_tup (pa_cons (pv 2) (pa_cons (pv 3) pa_nil))) (pv 4) rfl)
  (pss_one (ps_dput (u1_of hu64) (pv 1) (pe_tup (pa_cons (pv 3) (pa_cons (pv 2) pa_nil))) (pv 4) rfl))))
  (pss_one (ps_ret (pv 1))))), ?_⟩
    refine fun p2 hp3 => ?_
    have hl5 : RD (κ := (Int × Int)) (β := Int) F [] ([] : (List ((Int × Int) × Int))) := RD.nil
    have z6 := O.was hp3
    have O4 := O.new (o := .dT []) hp3
    obtain ⟨p7, v10, v11, e8, h9, r12, r13⟩ := R.t2_ f_tree
    cases e8
    obtain ⟨p14, w15, e16, h17, hl18⟩ := R.lst_ r13
    cases e16
    obtain ⟨L20, hL21, hLs22, hLd23⟩ := loopN_L hk
    refine ⟨_, rfl, _, _, _, _, rfl, rfl, (SqTF O4.s h9), rfl, _, rfl, ⟨_, (SqLF O4.s h17)⟩, ?_⟩
    refine for_list (K := K) (xs := w15) (fun i σ H => ∃ (F_ : Hp) (st : (List ((Int × Int) × Int))) (w_0 : (List (List Key × V))) (t_0 : Option V) (t_1 : Option V) (t_2 : Option V), σ = [some (V.ref p7), some (V.ref p2), t_0, t_1, t_2] ∧ Same F F_ ∧ Ow _ F_ [(p2, .dT w_0)] H ∧ RD (κ := (Int × Int)) (β := Int) F_ w_0 st ∧ L20 (List.drop i x_tree.2) st) ⟨F, ([] : (List ((Int × Int) × Int))), [], none, none, none, rfl, Same.refl _, O4, hl5, hL21⟩ (fun i_ σ_ H_ _ hp_ => ?_) ?_ ?_
    · obtain ⟨_, _, _, _, _, _, _, hS_, hO_, _⟩ := hp_
      exact SqLF hO_.s (hS_ _ _ h17)
    · rintro i24 x25 sg26 H27 hi28 ⟨F36, st30, w31, t33, t34, t35, rfl, S29, O37, hl32, hL21⟩
      have f_tree := f_tree.mono S29
      have h9 := S29 _ _ h9
      have r12 := r12.mono S29
      have r13 := r13.mono S29
      have h17 := S29 _ _ h17
      have hl18 := hl18.mono S29
      obtain ⟨y19, e38, r39⟩ := RL.got hl18 hi28
      rw [drop_at e38] at hL21
      have hk := hLs22 _ _ _ hL21
      obtain ⟨p40, v43, v44, v45, e41, h42, r46, r47, r48⟩ := R.t3_ r39
      cases e41
      obtain rfl := R.int_ r46
      obtain rfl := R.int_ r47
      obtain rfl := R.int_ r48
      refine ⟨_, _, rfl, (SqTF O37.s h42), rfl, _, _, rfl, _, _, rfl, _, _, rfl, rfl, _, rfl, _, rfl, _, rfl, _, rfl, (by show 2 ≤ sizeLine; decide), fun p49 hp50 => ?_⟩
      obtain ⟨F51, O52, S53, h54⟩ := O37.putE hp50 (.tup [V.int y19.a, V.int y19.b])
      have f_tree := f_tree.mono S53
      have h9 := S53 _ _ h9
      have r12 := r12.mono S53
      have r13 := r13.mono S53
      have h17 := S53 _ _ h17
      have hl18 := hl18.mono S53
      have hl32 := hl32.mono S53
      have S29 := S29.trans S53
      have r39 := r39.mono S53
      have h42 := S53 _ _ h42
      have h55 : R (a := (Int × Int)) F51 (.ref p49) (y19.a, y19.b) := R.t2 h54 R.int R.int
      obtain ⟨p56, v59, v60, e57, h58, r61, r62⟩ := R.t2_ h55
      cases e57
      obtain rfl := R.int_ r61
      obtain rfl := R.int_ r62
      obtain ⟨c63, hk⟩ := wp_putD hk
      refine ⟨_, _, rfl, (dput_T (v := (V.int y19.c)) (O52.at 0 rfl) (O52.s _ _ h58) (by rw [RD.len hl32]; exact c63)), ?_⟩
      have O65 := O52.set 0 (.dT (putK w31 (DK.kk ((y19.a, y19.b).1, (y19.a, y19.b).2)) (V.int y19.c))) rfl
      have hl66 : RD (κ := (Int × Int)) (β := Int) F51 (putK w31 (DK.kk ((y19.a, y19.b).1, (y19.a, y19.b).2)) (V.int y19.c)) (dPut st30 ((y19.a, y19.b).1, (y19.a, y19.b).2) y19.c) := RD.put hl32 ((y19.a, y19.b).1, (y19.a, y19.b).2) R.int
      refine ⟨_, rfl, _, rfl, _, rfl, _, rfl, (by show 2 ≤ sizeLine; decide), fun p67 hp68 => ?_⟩
      obtain ⟨F69, O70, S71, h72⟩ := O65.putE hp68 (.tup [V.int y19.b, V.int y19.a])
      have f_tree := f_tree.mono S71
      have h9 := S71 _ _ h9
      have r12 := r12.mono S71
      have r13 := r13.mono S71
      have h17 := S71 _ _ h17
      have hl18 := hl18.mono S71
      have S29 := S29.trans S71
      have r39 := r39.mono S71
      have h42 := S71 _ _ h42
      have h55 := h55.mono S71
      have h58 := S71 _ _ h58
      have hl66 := hl66.mono S71
      have h73 : R (a := (Int × Int)) F69 (.ref p67) (y19.b, y19.a) := R.t2 h72 R.int R.int
      obtain ⟨p74, v77, v78, e75, h76, r79, r80⟩ := R.t2_ h73
      cases e75
      obtain rfl := R.int_ r79
      obtain rfl := R.int_ r80
      obtain ⟨c81, hk⟩ := wp_putD hk
      refine ⟨_, _, rfl, (dput_T (v := (V.int y19.c)) (O70.at 0 rfl) (O70.s _ _ h76) (by rw [RD.len hl66]; exact c81)), ?_⟩
      have O83 := O70.set 0 (.dT (putK (putK w31 (DK.kk ((y19.a, y19.b).1, (y19.a, y19.b).2)) (V.int y19.c)) (DK.kk ((y19.b, y19.a).1, (y19.b, y19.a).2)) (V.int y19.c))) rfl
      have hl84 : RD (κ := (Int × Int)) (β := Int) F69 (putK (putK w31 (DK.kk ((y19.a, y19.b).1, (y19.a, y19.b).2)) (V.int y19.c)) (DK.kk ((y19.b, y19.a).1, (y19.b, y19.a).2)) (V.int y19.c)) (dPut (dPut st30 ((y19.a, y19.b).1, (y19.a, y19.b).2) y19.c) ((y19.b, y19.a).1, (y19.b, y19.a).2) y19.c) := RD.put hl66 ((y19.b, y19.a).1, (y19.b, y19.a).2) R.int
      exact ⟨F69, (dPut (dPut st30 ((y19.a, y19.b).1, (y19.a, y19.b).2) y19.c) ((y19.b, y19.a).1, (y19.b, y19.a).2) y19.c), (putK (putK w31 (DK.kk ((y19.a, y19.b).1, (y19.a, y19.b).2)) (V.int y19.c)) (DK.kk ((y19.b, y19.a).1, (y19.b, y19.a).2)) (V.int y19.c)), some (V.int y19.a), some (V.int y19.b), some (V.int y19.c), rfl, S29, O83, hl84, hk⟩
    rintro sg85 H86 ⟨F95, st88, w90, t92, t93, t94, rfl, S87, O96, hl91, hL89⟩
    rw [drop_end hl18.len] at hL89
    have hk := hLd23 _ hL89
    have f_tree := f_tree.mono S87
    have h9 := S87 _ _ h9
    have r12 := r12.mono S87
    have r13 := r13.mono S87
    have h17 := S87 _ _ h17
    have hl18 := hl18.mono S87
    obtain ⟨F97, O98, S99, h100⟩ := O96.frzE 0 rfl z6
    have f_tree := f_tree.mono S99
    have h9 := S99 _ _ h9
    have r12 := r12.mono S99
    have r13 := r13.mono S99
    have h17 := S99 _ _ h17
    have hl18 := hl18.mono S99
    have hl91 := hl91.mono S99
    have h101 := RDv.mk (κ := (Int × Int)) (β := Int) h100 hl91
    refine ⟨_, rfl, ?_⟩
    exact hk _ _  O98.g  _ h101
abbrev s_every_branch : Stmt := top 27
theorem sc_every_branch : FnScope ["tree"] ["tree"] (defScope s_every_branch) := ⟨rfl, rfl, rfl, by decide +kernel, rfl, by decide +kernel, by decide +kernel⟩
def m_every_branch (x_tree : ((List Int) × (List (T3 Int Int Int)))) : M ((List (Int × Int))) :=
m_lengths_of x_tree >>= fun r2 =>
.ok (sortT (List.map (fun x => x.1) r2))
def sp_every_branch (mg : Str → Option Value) : Sp := fun vs H Q E => ∃ (F : Hp) (v_tree : V) (x_tree : ((List Int) × (List (T3 Int Int Int)))), vs = [v_tree] ∧ Pre F [] H ∧ R (a := ((List Int) × (List (T3 Int Int Int)))) F v_tree x_tree ∧
  wp (m_every_branch x_tree) (fun r => ∀ (F' H' : Hp), Gr [] F H F' H' → ∀ (p : Addr) (w : (List V)), H p = none → F' p = none → H' p = some (.lst w) → RL (a := (Int × Int)) F' w r → Q (.ref p) H')
  (fun n => ∀ (C : Addr) (H' : Hp), mg (Str.ofString n) = some (.ref C) → Kp [] H H' → E (.ref C) none H')
set_option maxHeartbeats 2000000 in
theorem ok_every_branch (nb : Nb mg) (C_lengths_of : Ca P w K mg base "lengths_of" 1 ["tree"] (sp_lengths_of mg)) (D : Df K mg "every_branch" "every_branch" s_every_branch ["tree"]) : Ca P w K mg base "every_branch" 2 ["tree"] (sp_every_branch mg) := by
  obtain ⟨fa_lengths_of, fd_lengths_of, G_lengths_of, M_lengths_of, K_lengths_of, B_lengths_of⟩ := C_lengths_of.ex
  refine Ca.mk' D sc_every_branch (fun vs H Q E h => ?_) (fun q_ f_ cdv A outer s H vs Q E hr h => ?_)
  · obtain ⟨F, _, _, rfl, _⟩ := h
    rfl
  · obtain ⟨F, v_tree, x_tree, rfl, P0, f_tree, hk⟩ := h
    have nd := sc_every_branch.nd
    have hu64 := hr.units
    have hu128 := hu128_of hr
    have O := P0.start
    refine ⟨_, (pss_one (ps_ret (pe_callB (cr_sortedDT rfl hu128) (by rfl) nb.b_sorted (by decide +kernel) (pa_cons (pe_call G_lengths_of (hr.mono (by decide)) rfl M_lengths_of K_lengths_of B_lengths_of .nil (passes_call (takes_of rfl rfl rfl rfl) fun _ _ _ _ h => h) (pa_cons (pv 0) pa_nil)) pa_nil)))), ?_⟩
    refine ⟨_, rfl, _, _, _, rfl, O.pre0, f_tree, wp_call hk (fun r2 er3 hk F4 H5 g6 v7 r8 => ?_) (fun n hn C H1 hC kp => hn C H1 hC (O.kp0 kp))⟩
    have O9 := O.call0 g6
    have S_ := g6.f
    have f_tree := f_tree.mono S_
    obtain ⟨p10, w11, e12, h13, hl14⟩ := r8
    cases e12
    have h13 : F4 _ = some (.dT w11) := h13
    have r8 := RDv.mk (κ := (Int × Int)) (β := Int) h13 hl14
    refine ⟨_, _, _, rfl, (O9.s _ _ h13), (RD.keys hl14), fun bs17 p15 hks18 hp16 => ?_⟩
    obtain ⟨F19, O20, S21, hb22⟩ := O9.tups bs17 (keys_tups hks18)
    have f_tree := f_tree.mono S21
    have r8 := r8.mono S21
    have h13 := S21 _ _ h13
    have hl14 := hl14.mono S21
    have hl23 := keys_in hks18 hb22 (RD.keys hl14)
    have hl25 : RL (a := (Int × Int)) F19 (sortV (List.map V.ref bs17) (List.map (fun x => x.1) r2)) (sortT (List.map (fun x => x.1) r2)) := (RL.sorted hl23)
    have z26 := O20.was hp16
    have O24 := O20.new (o := .lst (sortV (List.map V.ref bs17) (List.map (fun x => x.1) r2))) hp16
    exact hk _ _  O24.g  _ _ z26 (O24.cf _ (List.mem_of_getElem? (i := 0) rfl)) (O24.at 0 rfl) hl25
abbrev s_row_with : Stmt := top 28
theorem sc_row_with : FnScope ["tree", "rule", "place", "near", "own", "so", "more"] ["tree", "rule", "place", "near"] (defScope s_row_with) := ⟨rfl, rfl, rfl, by decide +kernel, rfl, by decide +kernel, by decide +kernel⟩
def m_row_with (x_tree : ((List Int) × (List (T3 Int Int Int)))) (x_rule : (T4 (List Sm) (List Sm) (List Sm) Sm)) (x_place : Int) (x_near : (List (List Int))) : M ((List Int)) :=
opt (atI x_tree.1 x_place) >>= fun y13 =>
m_begun x_rule y13 >>= fun r18 =>
loopN (fun (y42 : (List Int)) (st53 : (List Int)) =>
m_joined x_rule st53 y42 y13 >>= fun r61 =>
.ok r61) x_near r18 >>= fun st83 =>
.ok st83
def sp_row_with (mg : Str → Option Value) : Sp := fun vs H Q E => ∃ (F : Hp) (v_tree : V) (x_tree : ((List Int) × (List (T3 Int Int Int)))) (v_rule : V) (x_rule : (T4 (List Sm) (List Sm) (List Sm) Sm)) (x_place : Int) (v_near : V) (x_near : (List (List Int))), vs = [v_tree, v_rule, V.int x_place, v_near] ∧ Pre F [] H ∧ R (a := ((List Int) × (List (T3 Int Int Int)))) F v_tree x_tree ∧ R (a := (T4 (List Sm) (List Sm) (List Sm) Sm)) F v_rule x_rule ∧ R (a := (List (List Int))) F v_near x_near ∧
  wp (m_row_with x_tree x_rule x_place x_near) (fun r => ∀ (F' H' : Hp), Gr [] F H F' H' → ∀ v : V, R (a := (List Int)) F' v r → Q v H')
  (fun n => ∀ (C : Addr) (H' : Hp), mg (Str.ofString n) = some (.ref C) → Kp [] H H' → E (.ref C) none H')
set_option maxHeartbeats 2000000 in
theorem ok_row_with (nb : Nb mg) (C_begun : Ca P w K mg base "begun" 14 ["rule", "own"] (sp_begun mg)) (C_joined : Ca P w K mg base "joined" 14 ["rule", "so", "more", "own"] (sp_joined mg)) (D : Df K mg "row_with" "row_with" s_row_with ["tree", "rule", "place", "near"]) : Ca P w K mg base "row_with" 15 ["tree", "rule", "place", "near"] (sp_row_with mg) := by
  obtain ⟨fa_begun, fd_begun, G_begun, M_begun, K_begun, B_begun⟩ := C_begun.ex
  obtain ⟨fa_joined, fd_joined, G_joined, M_joined, K_joined, B_joined⟩ := C_joined.ex
  refine Ca.mk' D sc_row_with (fun vs H Q E h => ?_) (fun q_ f_ cdv A outer s H vs Q E hr h => ?_)
  · obtain ⟨F, _, _, _, _, _, _, _, rfl, _⟩ := h
    rfl
  · obtain ⟨F, v_tree, x_tree, v_rule, x_rule, x_place, v_near, x_near, rfl, P0, f_tree, f_rule, f_near, hk⟩ := h
    have nd := sc_row_with.nd
    have hu64 := hr.units
    have hu128 := hu128_of hr
    have O := P0.start
    refine ⟨_, (pss_cons (ps_set (i := 4) nd rfl (Or.inl rfl) (pe_ix (ixListK (K := K) rfl) (pe_ix (ixTupK (K := K) rfl) (pv 0) pe_int (fun _ _ => rfl)) (pv 2) (fun _ _ => rfl)))
  (pss_cons (ps_set (i := 5) nd rfl (Or.inl rfl) (pe_call G_begun (hr.mono (by decide)) rfl M_begun K_begun B_begun .nil (passes_call (takes_of rfl rfl rfl rfl) fun _ _ _ _ h => h) (pa_cons (pv 1) (pa_cons (pv 4) pa_nil))))
  (pss_cons (ps_for (passes_of rfl) rfl (piListK (K := K) rfl (pv 3)) (pg_name (i := 6) nd rfl (Or.inl rfl)) (pss_one (ps_set (i := 5) nd rfl (Or.inl rfl) (pe_call G_joined (hr.mono (by decide)) rfl M_joined K_joined B_joined .nil (passes_call (takes_of rfl rfl rfl rfl) fun _ _ _ _ h => h) (pa_cons (pv 1) (pa_cons (pv 5) (pa_cons (pv 6) (pa_cons (pv 4) pa_nil))))))))
  (pss_one (ps_ret (pv 5)))))), ?_⟩
    obtain ⟨p1, v4, v5, e2, h3, r6, r7⟩ := R.t2_ f_tree
    cases e2
    obtain ⟨p8, w9, e10, h11, hl12⟩ := R.lst_ r6
    cases e10
    obtain ⟨y13, e14, hk⟩ := wp_opt hk
    obtain ⟨w15, e16, r17⟩ := hl12.atI e14
    obtain rfl := R.int_ r17
    refine ⟨_, rfl, _, _, _, _, rfl, rfl, (SqTF O.s h3), rfl, _, rfl, _, _, _, _, rfl, rfl, (SqLF O.s h11), e16, _, rfl, _, rfl, _, _, _, _, rfl, O.pre0, f_rule, wp_call hk (fun r18 er19 hk F20 H21 g22 p23 w24 hn25 hf26 h27 hl28 => ?_) (fun n hn C H1 hC kp => hn C H1 hC (O.kp0 kp))⟩
    have O29 := O.call0 g22
    have S_ := g22.f
    have f_tree := f_tree.mono S_
    have f_rule := f_rule.mono S_
    have f_near := f_near.mono S_
    have h3 := S_ _ _ h3
    have r6 := r6.mono S_
    have r7 := r7.mono S_
    have h11 := S_ _ _ h11
    have hl12 := hl12.mono S_
    have O30 := O.got O29 rfl hn25 hf26 h27
    have z31 := O.was hn25
    obtain ⟨F32, O33, S34, h35⟩ := O30.frzE 0 rfl z31
    have f_tree := f_tree.mono S34
    have f_rule := f_rule.mono S34
    have f_near := f_near.mono S34
    have h3 := S34 _ _ h3
    have r6 := r6.mono S34
    have r7 := r7.mono S34
    have h11 := S34 _ _ h11
    have hl12 := hl12.mono S34
    have hl28 := hl28.mono S34
    have h36 := R.lst (a := Int) h35 hl28
    obtain ⟨p37, w38, e39, h40, hl41⟩ := R.lst_ f_near
    cases e39
    obtain ⟨L43, hL44, hLs45, hLd46⟩ := loopN_L hk
    refine ⟨_, rfl, _, rfl, ⟨_, (SqLF O33.s h40)⟩, ?_⟩
    refine for_list (K := K) (xs := w38) (fun i σ H => ∃ (F_ : Hp) (st : (List Int)) (v_0 : V) (t_0 : Option V), σ = [some (V.ref p1), some v_rule, some (V.int x_place), some (V.ref p37), some (V.int y13), some v_0, t_0] ∧ Same F32 F_ ∧ Ow _ F_ [] H ∧ R (a := (List Int)) F_ v_0 st ∧ L43 (List.drop i x_near) st) ⟨F32, r18, V.ref p23, none, rfl, Same.refl _, O33, h36, hL44⟩ (fun i_ σ_ H_ _ hp_ => ?_) ?_ ?_
    · obtain ⟨_, _, _, _, _, hS_, hO_, _⟩ := hp_
      exact SqLF hO_.s (hS_ _ _ h40)
    · rintro i47 x48 sg49 H50 hi51 ⟨F57, st53, v54, t56, rfl, S52, O58, r55, hL44⟩
      have f_tree := f_tree.mono S52
      have f_rule := f_rule.mono S52
      have f_near := f_near.mono S52
      have h3 := S52 _ _ h3
      have r6 := r6.mono S52
      have r7 := r7.mono S52
      have h11 := S52 _ _ h11
      have hl12 := hl12.mono S52
      have h36 := h36.mono S52
      have h40 := S52 _ _ h40
      have hl41 := hl41.mono S52
      obtain ⟨y42, e59, r60⟩ := RL.got hl41 hi51
      rw [drop_at e59] at hL44
      have hk := hLs45 _ _ _ hL44
      refine ⟨_, rfl, _, rfl, _, rfl, _, rfl, _, _, _, _, _, _, _, _, rfl, O58.pre0, f_rule, r55, r60, wp_call hk (fun r61 er62 hk F63 H64 g65 p66 w67 hn68 hf69 h70 hl71 => ?_) (fun n hn C H1 hC kp => hn C H1 hC (O58.kp0 kp))⟩
      have O72 := O58.call0 g65
      have S_ := g65.f
      have f_tree := f_tree.mono S_
      have f_rule := f_rule.mono S_
      have f_near := f_near.mono S_
      have h3 := S_ _ _ h3
      have r6 := r6.mono S_
      have r7 := r7.mono S_
      have h11 := S_ _ _ h11
      have hl12 := hl12.mono S_
      have h36 := h36.mono S_
      have h40 := S_ _ _ h40
      have hl41 := hl41.mono S_
      have r55 := r55.mono S_
      have S52 := S52.trans S_
      have r60 := r60.mono S_
      have O73 := O58.got O72 rfl hn68 hf69 h70
      have z74 := O58.was hn68
      obtain ⟨F75, O76, S77, h78⟩ := O73.frzE 0 rfl z74
      have f_tree := f_tree.mono S77
      have f_rule := f_rule.mono S77
      have f_near := f_near.mono S77
      have h3 := S77 _ _ h3
      have r6 := r6.mono S77
      have r7 := r7.mono S77
      have h11 := S77 _ _ h11
      have hl12 := hl12.mono S77
      have h36 := h36.mono S77
      have h40 := S77 _ _ h40
      have hl41 := hl41.mono S77
      have r55 := r55.mono S77
      have S52 := S52.trans S77
      have r60 := r60.mono S77
      have hl71 := hl71.mono S77
      have h79 := R.lst (a := Int) h78 hl71
      exact ⟨F75, r61, V.ref p66, some x48, rfl, S52, O76, h79, hk⟩
    rintro sg80 H81 ⟨F88, st83, v85, t87, rfl, S82, O89, r86, hL84⟩
    rw [drop_end hl41.len] at hL84
    have hk := hLd46 _ hL84
    have f_tree := f_tree.mono S82
    have f_rule := f_rule.mono S82
    have f_near := f_near.mono S82
    have h3 := S82 _ _ h3
    have r6 := r6.mono S82
    have r7 := r7.mono S82
    have h11 := S82 _ _ h11
    have hl12 := hl12.mono S82
    have h36 := h36.mono S82
    have h40 := S82 _ _ h40
    have hl41 := hl41.mono S82
    refine ⟨_, rfl, ?_⟩
    exact hk _ _  O89.g  _ r86
abbrev s_row_down : Stmt := top 29
theorem sc_row_down : FnScope ["tree", "rule", "near", "lengths", "branch", "rows", "a", "b", "c"] ["tree", "rule", "near", "lengths", "branch"] (defScope s_row_down) := ⟨rfl, rfl, rfl, by decide +kernel, rfl, by decide +kernel, by decide +kernel⟩
def m_row_down : Nat → ((List Int) × (List (T3 Int Int Int))) → (T4 (List Sm) (List Sm) (List Sm) Sm) → (List (List Int)) → (List ((Int × Int) × Int)) → (Int × Int) → M ((List Int))
  | 0, _, _, _, _, _ => bad
  | k_ + 1, x_tree, x_rule, x_near, x_lengths, x_branch =>
    opt (atI x_near x_branch.2) >>= fun y13 =>
    compS (fun (y23 : Int) (st40 : Unit) =>
    if y23 ≠ x_branch.1 then (
    m_row_down k_ x_tree x_rule x_near x_lengths (x_branch.2, y23) >>= fun r54 =>
    .ok (some r54, ()))
    else (
    .ok (none, ()))) y13 () >>= fun q84 =>
    m_row_with x_tree x_rule x_branch.2 q84.1 >>= fun r91 =>
    opt (atI x_tree.1 x_branch.2) >>= fun y111 =>
    opt (dGet x_lengths x_branch) >>= fun y121 =>
    m_over_tie x_rule r91 y111 y121 >>= fun r126 =>
    .ok r126
def sp_row_down (k_ : Nat) (mg : Str → Option Value) : Sp := fun vs H Q E => ∃ (F : Hp) (v_tree : V) (x_tree : ((List Int) × (List (T3 Int Int Int)))) (v_rule : V) (x_rule : (T4 (List Sm) (List Sm) (List Sm) Sm)) (v_near : V) (x_near : (List (List Int))) (v_lengths : V) (x_lengths : (List ((Int × Int) × Int))) (v_branch : V) (x_branch : (Int × Int)), vs = [v_tree, v_rule, v_near, v_lengths, v_branch] ∧ Pre F [] H ∧ R (a := ((List Int) × (List (T3 Int Int Int)))) F v_tree x_tree ∧ R (a := (T4 (List Sm) (List Sm) (List Sm) Sm)) F v_rule x_rule ∧ R (a := (List (List Int))) F v_near x_near ∧ RDv (κ := (Int × Int)) (β := Int) F v_lengths x_lengths ∧ R (a := (Int × Int)) F v_branch x_branch ∧
  wp (m_row_down k_ x_tree x_rule x_near x_lengths x_branch) (fun r => ∀ (F' H' : Hp), Gr [] F H F' H' → ∀ (p : Addr) (w : (List V)), H p = none → F' p = none → H' p = some (.lst w) → RL (a := Int) F' w r → Q (.ref p) H')
  (fun n => ∀ (C : Addr) (H' : Hp), mg (Str.ofString n) = some (.ref C) → Kp [] H H' → E (.ref C) none H')
set_option maxHeartbeats 2000000 in
theorem ok_row_down (nb : Nb mg) (C_over_tie : Ca P w K mg base "over_tie" 14 ["rule", "more", "own", "tie"] (sp_over_tie mg)) (C_row_with : Ca P w K mg base "row_with" 15 ["tree", "rule", "place", "near"] (sp_row_with mg)) (D : Df K mg "row_down" "row_down" s_row_down ["tree", "rule", "near", "lengths", "branch"]) : ∀ k_ : Nat, Ca P w K mg base "row_down" (k_ + 16) ["tree", "rule", "near", "lengths", "branch"] (sp_row_down k_ mg) := by
  intro k_
  induction k_ with
  | zero =>
    refine Ca.mk' D sc_row_down (fun vs H Q E h => ?_) (fun q_ f_ cdv A outer s H vs Q E hr h => ?_)
    · obtain ⟨F, _, _, _, _, _, _, _, _, _, _, rfl, _⟩ := h
      rfl
    · obtain ⟨F, _, _, _, _, _, _, _, _, _, _, rfl, _, _, _, _, _, _, hk⟩ := h
      exact hk.elim
  | succ k_ ih_ =>
    have C_row_down := ih_
    obtain ⟨fa_over_tie, fd_over_tie, G_over_tie, M_over_tie, K_over_tie, B_over_tie⟩ := C_over_tie.ex
    obtain ⟨fa_row_with, fd_row_with, G_row_with, M_row_with, K_row_with, B_row_with⟩ := C_row_with.ex
    obtain ⟨fa_row_down, fd_row_down, G_row_down, M_row_down, K_row_down, B_row_down⟩ := C_row_down.ex
    refine Ca.mk' D sc_row_down (fun vs H Q E h => ?_) (fun q_ f_ cdv A outer s H vs Q E hr h => ?_)
    · obtain ⟨F, _, _, _, _, _, _, _, _, _, _, rfl, _⟩ := h
      rfl
    · obtain ⟨F, v_tree, x_tree, v_rule, x_rule, v_near, x_near, v_lengths, x_lengths, v_branch, x_branch, rfl, P0, f_tree, f_rule, f_near, f_lengths, f_branch, hk⟩ := h
      have nd := sc_row_down.nd
      have hu64 := hr.units
      have hu128 := hu128_of hr
      have O := P0.start
      refine ⟨_, (pss_cons (ps_asg (pv 4) (pg_tup rfl (pgs_cons (pg_name (i := 6) nd rfl (Or.inr rfl)) (pgs_cons (pg_name (i := 7) nd rfl (Or.inr rfl)) pgs_nil))))
  (pss_cons (ps_setLc (i := 5) (own := [("c", 8)]) (g := gName 8) (tt := _) rfl nd rfl rfl (sw_true rfl rfl rfl (by decide +kernel)) (piListK (K := K) rfl (pe_ix (ixListK (K := K) rfl) (pv 2) (pv 7) (fun _ _ => rfl))) (blkOk_by (own := [("c", 8)]) (N := ["tree", "rule", "near", "lengths", "branch", "rows", "a", "b", "c"]) (sc := defScope s_row_down) (by decide +kernel)) (fun _ _ _ _ _ => (pg_name (i := 8) nd rfl (Or.inl rfl))) (fun _ _ _ _ _ => (pts_one (pt_cmpR (op_neT Int hu64) (pv 8) (pv 6) (nomark _)))) (fun _ _ _ _ _ => (pe_call G_row_down (hr.mono (by omega)) rfl M_row_down K_row_down B_row_down .nil passL (pa_cons (pv 0) (pa_cons (pv 1) (pa_cons (pv 2) (pa_cons (pv 3) (pa_cons (pe_tup (pa_cons (pv 7) (pa_cons (pv 8) pa_nil))) pa_nil))))))))
  (pss_one (ps_ret (pe_call G_over_tie (hr.mono (by omega)) rfl M_over_tie K_over_tie B_over_tie .nil (passes_call (takes_of rfl rfl rfl rfl) fun _ _ _ _ h => h) (pa_cons (pv 1) (pa_cons (pe_call G_row_with (hr.mono (by omega)) rfl M_row_with K_row_with B_row_with .nil (passes_call (takes_of rfl rfl rfl rfl) fun _ _ _ _ h => h) (pa_cons (pv 0) (pa_cons (pv 1) (pa_cons (pv 7) (pa_cons (pv 5) pa_nil))))) (pa_cons (pe_ix (ixListK (K := K) rfl) (pe_ix (ixTupK (K := K) rfl) (pv 0) pe_int (fun _ _ => rfl)) (pv 7) (fun _ _ => rfl)) (pa_cons (pe_dget (u1_of hu64) (pv 3) (pv 4) (fun _ _ => rfl)) pa_nil))))))))), ?_⟩
      obtain ⟨p1, v4, v5, e2, h3, r6, r7⟩ := R.t2_ f_branch
      cases e2
      obtain rfl := R.int_ r6
      obtain rfl := R.int_ r7
      obtain ⟨p8, w9, e10, h11, hl12⟩ := R.lst_ f_near
      cases e10
      obtain ⟨y13, e14, hk⟩ := wp_opt hk
      obtain ⟨w15, e16, r17⟩ := hl12.atI e14
      obtain ⟨p18, w19, e20, h21, hl22⟩ := R.lst_ r17
      cases e20
      obtain ⟨c28, L24, hL25, hLs26, hLd27⟩ := compS_L hk
      refine ⟨_, rfl, _, _, rfl, (SqTF O.s h3), rfl, _, _, rfl, _, _, rfl, rfl, _, rfl, _, rfl, _, _, _, _, rfl, rfl, (SqLF O.s h11), e16, _, rfl, ⟨_, (SqLF O.s h21)⟩, fun p29 hp30 => ?_⟩
      have z73 := O.was hp30
      refine lc_list (K := K) (xs := w19) (fun i H => ∃ (F_ : Hp) (st : Unit) (acc : List (List Int)) (wa : List V), Same F F_ ∧ Ow _ F_ [(p29, .lst wa)] H ∧ RL F_ wa acc ∧ wa.length ≤ i ∧ L24 (List.drop i y13) acc st) ⟨F, (), [], [], Same.refl _, O.new hp30, RL.nil, Nat.zero_le _, hL25⟩ (fun i_ H_ _ hp_ => ?_) ?_ ?_
      · obtain ⟨_, _, _, _, hS_, hO_, _⟩ := hp_
        exact SqLF hO_.s (hS_ _ _ h21)
      · rintro i31 x32 H33 hi34 ⟨F39, st40, acc36, wa37, S41, O43, hl42, la38, hL25⟩
        have f_tree := f_tree.mono S41
        have f_rule := f_rule.mono S41
        have f_near := f_near.mono S41
        have f_lengths := f_lengths.mono S41
        have f_branch := f_branch.mono S41
        have h3 := S41 _ _ h3
        have h11 := S41 _ _ h11
        have hl12 := hl12.mono S41
        have r17 := r17.mono S41
        have h21 := S41 _ _ h21
        have hl22 := hl22.mono S41
        obtain ⟨y23, e44, r45⟩ := RL.got hl22 hi34
        rw [drop_at e44] at hL25
        have hk := hLs26 _ _ _ _ hL25
        obtain rfl := R.int_ r45
        refine ⟨rfl, _, rfl, _, rfl, _, _, R.int, R.int, _, rfl, ?_⟩
        refine iteD (fun q46 => ?_) (fun q46 => ?_)
        · have hk := wp_if hk q46
          refine ⟨_, rfl, _, rfl, _, rfl, _, rfl, _, rfl, _, rfl, (by show 2 ≤ sizeLine; decide), fun p47 hp48 => ?_⟩
          obtain ⟨F49, O50, S51, h52⟩ := O43.putE hp48 (.tup [V.int x_branch.2, V.int y23])
          have f_tree := f_tree.mono S51
          have f_rule := f_rule.mono S51
          have f_near := f_near.mono S51
          have f_lengths := f_lengths.mono S51
          have f_branch := f_branch.mono S51
          have h3 := S51 _ _ h3
          have h11 := S51 _ _ h11
          have hl12 := hl12.mono S51
          have r17 := r17.mono S51
          have h21 := S51 _ _ h21
          have hl22 := hl22.mono S51
          have S41 := S41.trans S51
          have hl42 := hl42.mono S51
          have h53 : R (a := (Int × Int)) F49 (.ref p47) (x_branch.2, y23) := R.t2 h52 R.int R.int
          refine ⟨_, _, _, _, _, _, _, _, _, _, _, rfl, O50.pre0, f_tree, f_rule, f_near, f_lengths, h53, wp_call hk (fun r54 er55 hk F56 H57 g58 p59 w60 hn61 hf62 h63 hl64 => ?_) (fun n hn => hn.elim)⟩
          have O65 := O50.call0 g58
          have S_ := g58.f
          have f_tree := f_tree.mono S_
          have f_rule := f_rule.mono S_
          have f_near := f_near.mono S_
          have f_lengths := f_lengths.mono S_
          have f_branch := f_branch.mono S_
          have h3 := S_ _ _ h3
          have h11 := S_ _ _ h11
          have hl12 := hl12.mono S_
          have r17 := r17.mono S_
          have h21 := S_ _ _ h21
          have hl22 := hl22.mono S_
          have S41 := S41.trans S_
          have hl42 := hl42.mono S_
          have h53 := h53.mono S_
          have O66 := O50.got O65 rfl hn61 hf62 h63
          have z67 := O50.was hn61
          obtain ⟨F68, O69, S70, h71⟩ := O66.frzE 0 rfl z67
          have f_tree := f_tree.mono S70
          have f_rule := f_rule.mono S70
          have f_near := f_near.mono S70
          have f_lengths := f_lengths.mono S70
          have f_branch := f_branch.mono S70
          have h3 := S70 _ _ h3
          have h11 := S70 _ _ h11
          have hl12 := hl12.mono S70
          have r17 := r17.mono S70
          have h21 := S70 _ _ h21
          have hl22 := hl22.mono S70
          have S41 := S41.trans S70
          have hl42 := hl42.mono S70
          have h53 := h53.mono S70
          have hl64 := hl64.mono S70
          have h72 := R.lst (a := Int) h71 hl64
          refine ⟨_, (O69.at 0 rfl), (comp_len la38 hi34 hl22.len c28), ?_⟩
          exact ⟨F68, (), acc36 ++ [r54], wa37 ++ [V.ref p59], S41, O69.set 0 (.lst (wa37 ++ [V.ref p59])) rfl, RL.snoc hl42 h72, by rw [List.length_append]; exact Nat.succ_le_succ la38, hk⟩
        · have hk := wp_el hk q46
          exact ⟨F39, (), acc36, wa37, S41, O43, hl42, Nat.le_succ_of_le la38, hk⟩
      rintro H74 ⟨F75, st76, acc77, wa78, S79, O80, hl81, la82, hL83⟩
      rw [drop_end hl22.len] at hL83
      have hk := hLd27 _ _ hL83
      have f_tree := f_tree.mono S79
      have f_rule := f_rule.mono S79
      have f_near := f_near.mono S79
      have f_lengths := f_lengths.mono S79
      have f_branch := f_branch.mono S79
      have h3 := S79 _ _ h3
      have h11 := S79 _ _ h11
      have hl12 := hl12.mono S79
      have r17 := r17.mono S79
      have h21 := S79 _ _ h21
      have hl22 := hl22.mono S79
      obtain ⟨F85, O86, S87, h88⟩ := O80.frzE 0 rfl z73
      have f_tree := f_tree.mono S87
      have f_rule := f_rule.mono S87
      have f_near := f_near.mono S87
      have f_lengths := f_lengths.mono S87
      have f_branch := f_branch.mono S87
      have h3 := S87 _ _ h3
      have h11 := S87 _ _ h11
      have hl12 := hl12.mono S87
      have r17 := r17.mono S87
      have h21 := S87 _ _ h21
      have hl22 := hl22.mono S87
      have hl81 := hl81.mono S87
      have h89 := R.lst (a := (List Int)) h88 hl81
      refine ⟨_, rfl, _, rfl, _, rfl, _, rfl, _, rfl, _, _, _, _, _, _, _, _, rfl, O86.pre0, f_tree, f_rule, h89, wp_call hk (fun r91 er92 hk F93 H94 g95 v96 r97 => ?_) (fun n hn C H1 hC kp => hn C H1 hC (O86.kp0 kp))⟩
      have O98 := O86.call0 g95
      have S_ := g95.f
      have f_tree := f_tree.mono S_
      have f_rule := f_rule.mono S_
      have f_near := f_near.mono S_
      have f_lengths := f_lengths.mono S_
      have f_branch := f_branch.mono S_
      have h3 := S_ _ _ h3
      have h11 := S_ _ _ h11
      have hl12 := hl12.mono S_
      have r17 := r17.mono S_
      have h21 := S_ _ _ h21
      have hl22 := hl22.mono S_
      have h89 := h89.mono S_
      obtain ⟨p99, v102, v103, e100, h101, r104, r105⟩ := R.t2_ f_tree
      cases e100
      obtain ⟨p106, w107, e108, h109, hl110⟩ := R.lst_ r104
      cases e108
      obtain ⟨y111, e112, hk⟩ := wp_opt hk
      obtain ⟨w113, e114, r115⟩ := hl110.atI e112
      obtain rfl := R.int_ r115
      obtain ⟨p116, w117, e118, h119, hl120⟩ := f_lengths
      cases e118
      have h119 : F93 _ = some (.dT w117) := h119
      have f_lengths := RDv.mk (κ := (Int × Int)) (β := Int) h119 hl120
      obtain ⟨y121, e122, hk⟩ := wp_opt hk
      obtain ⟨w123, e124, r125⟩ := RD.some hl120 (k := (x_branch.1, x_branch.2)) e122
      obtain rfl := R.int_ r125
      refine ⟨_, rfl, _, _, _, _, rfl, rfl, (SqTF O98.s h101), rfl, _, rfl, _, _, _, _, rfl, rfl, (SqLF O98.s h109), e114, _, rfl, _, rfl, _, _, rfl, (dget_T (O98.s _ _ h119) (O98.s _ _ h3) e124), _, _, _, _, _, _, _, rfl, O98.pre0, f_rule, r97, wp_call hk (fun r126 er127 hk F128 H129 g130 p131 w132 hn133 hf134 h135 hl136 => ?_) (fun n hn C H1 hC kp => hn C H1 hC (O98.kp0 kp))⟩
      have O137 := O98.call0 g130
      have S_ := g130.f
      have f_tree := f_tree.mono S_
      have f_rule := f_rule.mono S_
      have f_near := f_near.mono S_
      have f_lengths := f_lengths.mono S_
      have f_branch := f_branch.mono S_
      have h3 := S_ _ _ h3
      have h11 := S_ _ _ h11
      have hl12 := hl12.mono S_
      have r17 := r17.mono S_
      have h21 := S_ _ _ h21
      have hl22 := hl22.mono S_
      have h89 := h89.mono S_
      have r97 := r97.mono S_
      have h101 := S_ _ _ h101
      have r104 := r104.mono S_
      have r105 := r105.mono S_
      have h109 := S_ _ _ h109
      have hl110 := hl110.mono S_
      have h119 := S_ _ _ h119
      have hl120 := hl120.mono S_
      have O138 := O98.got O137 rfl hn133 hf134 h135
      have z139 := O98.was hn133
      exact hk _ _  O138.g  _ _ z139 (O138.cf _ (List.mem_of_getElem? (i := 0) rfl)) (O138.at 0 rfl) hl136
abbrev s_branch_row : Stmt := top 30
theorem sc_branch_row : FnScope ["tree", "rule", "branch", "lengths"] ["tree", "rule", "branch"] (defScope s_branch_row) := ⟨rfl, rfl, rfl, by decide +kernel, rfl, by decide +kernel, by decide +kernel⟩
def m_branch_row (x_tree : ((List Int) × (List (T3 Int Int Int)))) (x_rule : (T4 (List Sm) (List Sm) (List Sm) Sm)) (x_branch : (Int × Int)) : M ((List Int)) :=
m_need_rule x_rule >>= fun r1 =>
m_lengths_of x_tree >>= fun r7 =>
if dHas r7 x_branch = true then (
m_tied_places (x_tree.1.length : Int) x_tree.2 >>= fun r44 =>
m_row_down 60 x_tree x_rule r44 r7 x_branch >>= fun r63 =>
.ok r63)
else (
raise "NoPlace")
def sp_branch_row (mg : Str → Option Value) : Sp := fun vs H Q E => ∃ (F : Hp) (v_tree : V) (x_tree : ((List Int) × (List (T3 Int Int Int)))) (v_rule : V) (x_rule : (T4 (List Sm) (List Sm) (List Sm) Sm)) (v_branch : V) (x_branch : (Int × Int)), vs = [v_tree, v_rule, v_branch] ∧ Pre F [] H ∧ R (a := ((List Int) × (List (T3 Int Int Int)))) F v_tree x_tree ∧ R (a := (T4 (List Sm) (List Sm) (List Sm) Sm)) F v_rule x_rule ∧ R (a := (Int × Int)) F v_branch x_branch ∧
  wp (m_branch_row x_tree x_rule x_branch) (fun r => ∀ (F' H' : Hp), Gr [] F H F' H' → ∀ (p : Addr) (w : (List V)), H p = none → F' p = none → H' p = some (.lst w) → RL (a := Int) F' w r → Q (.ref p) H')
  (fun n => ∀ (C : Addr) (H' : Hp), mg (Str.ofString n) = some (.ref C) → Kp [] H H' → E (.ref C) none H')
set_option maxHeartbeats 2000000 in
theorem ok_branch_row (nb : Nb mg) (C_lengths_of : Ca P w K mg base "lengths_of" 1 ["tree"] (sp_lengths_of mg)) (C_need_rule : Ca P w K mg base "need_rule" 63 ["rule"] (sp_need_rule mg)) (C_row_down : Ca P w K mg base "row_down" 76 ["tree", "rule", "near", "lengths", "branch"] (sp_row_down 60 mg)) (C_tied_places : Ca P w K mg base "tied_places" 1 ["many", "ties"] (sp_tied_places mg)) (E_NoPlace : ∃ C, Xc K mg "NoPlace" C) (D : Df K mg "branch_row" "branch_row" s_branch_row ["tree", "rule", "branch"]) : Ca P w K mg base "branch_row" 77 ["tree", "rule", "branch"] (sp_branch_row mg) := by
  obtain ⟨fa_lengths_of, fd_lengths_of, G_lengths_of, M_lengths_of, K_lengths_of, B_lengths_of⟩ := C_lengths_of.ex
  obtain ⟨fa_need_rule, fd_need_rule, G_need_rule, M_need_rule, K_need_rule, B_need_rule⟩ := C_need_rule.ex
  obtain ⟨fa_row_down, fd_row_down, G_row_down, M_row_down, K_row_down, B_row_down⟩ := C_row_down.ex
  obtain ⟨fa_tied_places, fd_tied_places, G_tied_places, M_tied_places, K_tied_places, B_tied_places⟩ := C_tied_places.ex
  obtain ⟨XC_NoPlace, X_NoPlace⟩ := E_NoPlace
  refine Ca.mk' D sc_branch_row (fun vs H Q E h => ?_) (fun q_ f_ cdv A outer s H vs Q E hr h => ?_)
  · obtain ⟨F, _, _, _, _, _, _, rfl, _⟩ := h
    rfl
  · obtain ⟨F, v_tree, x_tree, v_rule, x_rule, v_branch, x_branch, rfl, P0, f_tree, f_rule, f_branch, hk⟩ := h
    have nd := sc_branch_row.nd
    have hu64 := hr.units
    have hu128 := hu128_of hr
    have O := P0.start
    refine ⟨_, (pss_cons (ps_expr (pe_call G_need_rule (hr.mono (by decide)) rfl M_need_rule K_need_rule B_need_rule .nil (passes_call (takes_of rfl rfl rfl rfl) fun _ _ _ _ h => h) (pa_cons (pv 1) pa_nil)))
  (pss_cons (ps_set (i := 3) nd rfl (Or.inl rfl) (pe_call G_lengths_of (hr.mono (by decide)) rfl M_lengths_of K_lengths_of B_lengths_of .nil (passes_call (takes_of rfl rfl rfl rfl) fun _ _ _ _ h => h) (pa_cons (pv 0) pa_nil)))
  (pss_cons (ps_if (pt_cmp (pc_dnotin (u1_of hu64) (pv 2) (pv 3))) (pss_one (ps_raise rfl (takes_of rfl rfl rfl rfl) (pmk_own PySem.F.excBase_ValueError X_NoPlace.x X_NoPlace.g X_NoPlace.k (raises_own X_NoPlace.b X_NoPlace.t) rfl))) pss_nil)
  (pss_one (ps_ret (pe_call G_row_down (hr.mono (by decide)) rfl M_row_down K_row_down B_row_down .nil (passes_call (takes_of rfl rfl rfl rfl) fun _ _ _ _ h => h) (pa_cons (pv 0) (pa_cons (pv 1) (pa_cons (pe_call G_tied_places (hr.mono (by decide)) rfl M_tied_places K_tied_places B_tied_places .nil (passes_call (takes_of rfl rfl rfl rfl) fun _ _ _ _ h => h) (pa_cons (pe_callB call_lenT (by rfl) nb.b_len PySem.boot_len (pa_cons (pe_ix (ixTupK (K := K) rfl) (pv 0) pe_int (fun _ _ => rfl)) pa_nil)) (pa_cons (pe_ix (ixTupK (K := K) rfl) (pv 0) pe_int (fun _ _ => rfl)) pa_nil))) (pa_cons (pv 3) (pa_cons (pv 2) pa_nil))))))))))), ?_⟩
    refine ⟨_, rfl, _, _, _, rfl, O.pre0, f_rule, wp_call hk (fun r1 er2 hk F3 H4 g5 => ?_) (fun n hn C H1 hC kp => hn C H1 hC (O.kp0 kp))⟩
    have O6 := O.call0 g5
    have S_ := g5.f
    have f_tree := f_tree.mono S_
    have f_rule := f_rule.mono S_
    have f_branch := f_branch.mono S_
    refine ⟨_, rfl, _, _, _, rfl, O6.pre0, f_tree, wp_call hk (fun r7 er8 hk F9 H10 g11 v12 r13 => ?_) (fun n hn C H1 hC kp => hn C H1 hC (O6.kp0 kp))⟩
    have O14 := O6.call0 g11
    have S_ := g11.f
    have f_tree := f_tree.mono S_
    have f_rule := f_rule.mono S_
    have f_branch := f_branch.mono S_
    obtain ⟨p15, w16, e17, h18, hl19⟩ := r13
    cases e17
    have h18 : F9 _ = some (.dT w16) := h18
    have r13 := RDv.mk (κ := (Int × Int)) (β := Int) h18 hl19
    obtain ⟨p20, v23, v24, e21, h22, r25, r26⟩ := R.t2_ f_branch
    cases e21
    obtain rfl := R.int_ r25
    obtain rfl := R.int_ r26
    obtain ⟨o27, hg28, ho29⟩ := din_T (O14.s _ _ h18) (O14.s _ _ h22) hl19
    refine ⟨_, rfl, _, rfl, _, _, rfl, hg28, ?_⟩
    rw [ho29]
    refine ⟨_, rfl, ?_⟩
    refine iteBN (fun q30 => ?_) (fun q30 => ?_)
    · have hk := wp_if hk q30
      obtain ⟨p32, v35, v36, e33, h34, r37, r38⟩ := R.t2_ f_tree
      cases e33
      obtain ⟨p39, w40, e41, h42, hl43⟩ := R.lst_ r37
      cases e41
      refine ⟨_, rfl, _, rfl, _, rfl, _, _, _, _, rfl, rfl, (SqTF O14.s h34), rfl, _, _, _, rfl, (.inl (O14.s _ _ h42)), hl43.len, _, rfl, _, _, _, _, rfl, rfl, (SqTF O14.s h34), rfl, _, _, _, _, rfl, O14.pre0, r38, wp_call hk (fun r44 er45 hk F46 H47 g48 p49 w50 hn51 hf52 h53 hl54 => ?_) (fun n hn C H1 hC kp => hn C H1 hC (O14.kp0 kp))⟩
      have O55 := O14.call0 g48
      have S_ := g48.f
      have f_tree := f_tree.mono S_
      have f_rule := f_rule.mono S_
      have f_branch := f_branch.mono S_
      have r13 := r13.mono S_
      have h18 := S_ _ _ h18
      have hl19 := hl19.mono S_
      have h22 := S_ _ _ h22
      have h34 := S_ _ _ h34
      have r37 := r37.mono S_
      have r38 := r38.mono S_
      have h42 := S_ _ _ h42
      have hl43 := hl43.mono S_
      have O56 := O14.got O55 rfl hn51 hf52 h53
      have z57 := O14.was hn51
      obtain ⟨F58, O59, S60, h61⟩ := O56.frzE 0 rfl z57
      have f_tree := f_tree.mono S60
      have f_rule := f_rule.mono S60
      have f_branch := f_branch.mono S60
      have r13 := r13.mono S60
      have h18 := S60 _ _ h18
      have hl19 := hl19.mono S60
      have h22 := S60 _ _ h22
      have h34 := S60 _ _ h34
      have r37 := r37.mono S60
      have r38 := r38.mono S60
      have h42 := S60 _ _ h42
      have hl43 := hl43.mono S60
      have hl54 := hl54.mono S60
      have h62 := R.lst (a := (List Int)) h61 hl54
      refine ⟨_, rfl, _, rfl, _, _, _, _, _, _, _, _, _, _, _, rfl, O59.pre0, f_tree, f_rule, h62, r13, f_branch, wp_call hk (fun r63 er64 hk F65 H66 g67 p68 w69 hn70 hf71 h72 hl73 => ?_) (fun n hn C H1 hC kp => hn C H1 hC (O59.kp0 kp))⟩
      have O74 := O59.call0 g67
      have S_ := g67.f
      have f_tree := f_tree.mono S_
      have f_rule := f_rule.mono S_
      have f_branch := f_branch.mono S_
      have r13 := r13.mono S_
      have h18 := S_ _ _ h18
      have hl19 := hl19.mono S_
      have h22 := S_ _ _ h22
      have h34 := S_ _ _ h34
      have r37 := r37.mono S_
      have r38 := r38.mono S_
      have h42 := S_ _ _ h42
      have hl43 := hl43.mono S_
      have h62 := h62.mono S_
      have O75 := O59.got O74 rfl hn70 hf71 h72
      have z76 := O59.was hn70
      exact hk _ _  O75.g  _ _ z76 (O75.cf _ (List.mem_of_getElem? (i := 0) rfl)) (O75.at 0 rfl) hl73
    · have hk := wp_el hk q30
      exact hk _ _ X_NoPlace.g O14.kp
abbrev s_seat_worth : Stmt := top 31
theorem sc_seat_worth : FnScope ["tree", "rule", "place", "near", "lengths", "rows", "c"] ["tree", "rule", "place"] (defScope s_seat_worth) := ⟨rfl, rfl, rfl, by decide +kernel, rfl, by decide +kernel, by decide +kernel⟩
def m_seat_worth (x_tree : ((List Int) × (List (T3 Int Int Int)))) (x_rule : (T4 (List Sm) (List Sm) (List Sm) Sm)) (x_place : Int) : M (Int) :=
m_need_rule x_rule >>= fun r1 =>
m_need_place x_tree x_place >>= fun r7 =>
m_tied_places (x_tree.1.length : Int) x_tree.2 >>= fun r25 =>
m_lengths_of x_tree >>= fun r44 =>
opt (atI r25 x_place) >>= fun y57 =>
compS (fun (y67 : Int) (st84 : Unit) =>
m_row_down 60 x_tree x_rule r25 r44 (x_place, y67) >>= fun r97 =>
.ok (some r97, ())) y57 () >>= fun q127 =>
m_row_with x_tree x_rule x_place q127.1 >>= fun r133 =>
opt (atI x_tree.1 x_place) >>= fun y146 =>
m_told_by x_rule r133 y146 >>= fun r151 =>
.ok r151
def sp_seat_worth (mg : Str → Option Value) : Sp := fun vs H Q E => ∃ (F : Hp) (v_tree : V) (x_tree : ((List Int) × (List (T3 Int Int Int)))) (v_rule : V) (x_rule : (T4 (List Sm) (List Sm) (List Sm) Sm)) (x_place : Int), vs = [v_tree, v_rule, V.int x_place] ∧ Pre F [] H ∧ R (a := ((List Int) × (List (T3 Int Int Int)))) F v_tree x_tree ∧ R (a := (T4 (List Sm) (List Sm) (List Sm) Sm)) F v_rule x_rule ∧
  wp (m_seat_worth x_tree x_rule x_place) (fun r => ∀ (F' H' : Hp), Gr [] F H F' H' → Q (V.int r) H')
  (fun n => ∀ (C : Addr) (H' : Hp), mg (Str.ofString n) = some (.ref C) → Kp [] H H' → E (.ref C) none H')
set_option maxHeartbeats 2000000 in
theorem ok_seat_worth (nb : Nb mg) (C_lengths_of : Ca P w K mg base "lengths_of" 1 ["tree"] (sp_lengths_of mg)) (C_need_place : Ca P w K mg base "need_place" 1 ["tree", "place"] (sp_need_place mg)) (C_need_rule : Ca P w K mg base "need_rule" 63 ["rule"] (sp_need_rule mg)) (C_row_down : Ca P w K mg base "row_down" 76 ["tree", "rule", "near", "lengths", "branch"] (sp_row_down 60 mg)) (C_row_with : Ca P w K mg base "row_with" 15 ["tree", "rule", "place", "near"] (sp_row_with mg)) (C_tied_places : Ca P w K mg base "tied_places" 1 ["many", "ties"] (sp_tied_places mg)) (C_told_by : Ca P w K mg base "told_by" 14 ["rule", "so", "own"] (sp_told_by mg)) (D : Df K mg "seat_worth" "seat_worth" s_seat_worth ["tree", "rule", "place"]) : Ca P w K mg base "seat_worth" 77 ["tree", "rule", "place"] (sp_seat_worth mg) := by
  obtain ⟨fa_lengths_of, fd_lengths_of, G_lengths_of, M_lengths_of, K_lengths_of, B_lengths_of⟩ := C_lengths_of.ex
  obtain ⟨fa_need_place, fd_need_place, G_need_place, M_need_place, K_need_place, B_need_place⟩ := C_need_place.ex
  obtain ⟨fa_need_rule, fd_need_rule, G_need_rule, M_need_rule, K_need_rule, B_need_rule⟩ := C_need_rule.ex
  obtain ⟨fa_row_down, fd_row_down, G_row_down, M_row_down, K_row_down, B_row_down⟩ := C_row_down.ex
  obtain ⟨fa_row_with, fd_row_with, G_row_with, M_row_with, K_row_with, B_row_with⟩ := C_row_with.ex
  obtain ⟨fa_tied_places, fd_tied_places, G_tied_places, M_tied_places, K_tied_places, B_tied_places⟩ := C_tied_places.ex
  obtain ⟨fa_told_by, fd_told_by, G_told_by, M_told_by, K_told_by, B_told_by⟩ := C_told_by.ex
  refine Ca.mk' D sc_seat_worth (fun vs H Q E h => ?_) (fun q_ f_ cdv A outer s H vs Q E hr h => ?_)
  · obtain ⟨F, _, _, _, _, _, rfl, _⟩ := h
    rfl
  · obtain ⟨F, v_tree, x_tree, v_rule, x_rule, x_place, rfl, P0, f_tree, f_rule, hk⟩ := h
    have nd := sc_seat_worth.nd
    have hu64 := hr.units
    have hu128 := hu128_of hr
    have O := P0.start
    refine ⟨_, (pss_cons (ps_expr (pe_call G_need_rule (hr.mono (by decide)) rfl M_need_rule K_need_rule B_need_rule .nil (passes_call (takes_of rfl rfl rfl rfl) fun _ _ _ _ h => h) (pa_cons (pv 1) pa_nil)))
  (pss_cons (ps_expr (pe_call G_need_place (hr.mono (by decide)) rfl M_need_place K_need_place B_need_place .nil (passes_call (takes_of rfl rfl rfl rfl) fun _ _ _ _ h => h) (pa_cons (pv 0) (pa_cons (pv 2) pa_nil))))
  (pss_cons (ps_set (i := 3) nd rfl (Or.inr rfl) (pe_call G_tied_places (hr.mono (by decide)) rfl M_tied_places K_tied_places B_tied_places .nil (passes_call (takes_of rfl rfl rfl rfl) fun _ _ _ _ h => h) (pa_cons (pe_callB call_lenT (by rfl) nb.b_len PySem.boot_len (pa_cons (pe_ix (ixTupK (K := K) rfl) (pv 0) pe_int (fun _ _ => rfl)) pa_nil)) (pa_cons (pe_ix (ixTupK (K := K) rfl) (pv 0) pe_int (fun _ _ => rfl)) pa_nil))))
  (pss_cons (ps_set (i := 4) nd rfl (Or.inr rfl) (pe_call G_lengths_of (hr.mono (by decide)) rfl M_lengths_of K_lengths_of B_lengths_of .nil (passes_call (takes_of rfl rfl rfl rfl) fun _ _ _ _ h => h) (pa_cons (pv 0) pa_nil)))
  (pss_cons (ps_setLc (i := 5) (own := [("c", 6)]) (g := gName 6) (tt := _) rfl nd rfl rfl (sw_true rfl rfl rfl (by decide +kernel)) (piListK (K := K) rfl (pe_ix (ixListK (K := K) rfl) (pv 3) (pv 2) (fun _ _ => rfl))) (blkOk_by (own := [("c", 6)]) (N := ["tree", "rule", "place", "near", "lengths", "rows", "c"]) (sc := defScope s_seat_worth) (by decide +kernel)) (fun _ _ _ _ _ => (pg_name (i := 6) nd rfl (Or.inl rfl))) (fun _ _ _ _ _ => pts_nil) (fun _ _ _ _ _ => (pe_call G_row_down (hr.mono (by decide)) rfl M_row_down K_row_down B_row_down .nil passL (pa_cons (pv 0) (pa_cons (pv 1) (pa_cons (pv 3) (pa_cons (pv 4) (pa_cons (pe_tup (pa_cons (pv 2) (pa_cons (pv 6) pa_nil))) pa_nil))))))))
  (pss_one (ps_ret (pe_call G_told_by (hr.mono (by decide)) rfl M_told_by K_told_by B_told_by .nil (passes_call (takes_of rfl rfl rfl rfl) fun _ _ _ _ h => h) (pa_cons (pv 1) (pa_cons (pe_call G_row_with (hr.mono (by decide)) rfl M_row_with K_row_with B_row_with .nil (passes_call (takes_of rfl rfl rfl rfl) fun _ _ _ _ h => h) (pa_cons (pv 0) (pa_cons (pv 1) (pa_cons (pv 2) (pa_cons (pv 5) pa_nil))))) (pa_cons (pe_ix (ixListK (K := K) rfl) (pe_ix (ixTupK (K := K) rfl) (pv 0) pe_int (fun _ _ => rfl)) (pv 2) (fun _ _ => rfl)) pa_nil))))))))))), ?_⟩
    refine ⟨_, rfl, _, _, _, rfl, O.pre0, f_rule, wp_call hk (fun r1 er2 hk F3 H4 g5 => ?_) (fun n hn C H1 hC kp => hn C H1 hC (O.kp0 kp))⟩
    have O6 := O.call0 g5
    have S_ := g5.f
    have f_tree := f_tree.mono S_
    have f_rule := f_rule.mono S_
    refine ⟨_, rfl, _, rfl, _, _, _, _, rfl, O6.pre0, f_tree, wp_call hk (fun r7 er8 hk F9 H10 g11 => ?_) (fun n hn C H1 hC kp => hn C H1 hC (O6.kp0 kp))⟩
    have O12 := O6.call0 g11
    have S_ := g11.f
    have f_tree := f_tree.mono S_
    have f_rule := f_rule.mono S_
    obtain ⟨p13, v16, v17, e14, h15, r18, r19⟩ := R.t2_ f_tree
    cases e14
    obtain ⟨p20, w21, e22, h23, hl24⟩ := R.lst_ r18
    cases e22
    refine ⟨_, rfl, _, _, _, _, rfl, rfl, (SqTF O12.s h15), rfl, _, _, _, rfl, (.inl (O12.s _ _ h23)), hl24.len, _, rfl, _, _, _, _, rfl, rfl, (SqTF O12.s h15), rfl, _, _, _, _, rfl, O12.pre0, r19, wp_call hk (fun r25 er26 hk F27 H28 g29 p30 w31 hn32 hf33 h34 hl35 => ?_) (fun n hn C H1 hC kp => hn C H1 hC (O12.kp0 kp))⟩
    have O36 := O12.call0 g29
    have S_ := g29.f
    have f_tree := f_tree.mono S_
    have f_rule := f_rule.mono S_
    have h15 := S_ _ _ h15
    have r18 := r18.mono S_
    have r19 := r19.mono S_
    have h23 := S_ _ _ h23
    have hl24 := hl24.mono S_
    have O37 := O12.got O36 rfl hn32 hf33 h34
    have z38 := O12.was hn32
    obtain ⟨F39, O40, S41, h42⟩ := O37.frzE 0 rfl z38
    have f_tree := f_tree.mono S41
    have f_rule := f_rule.mono S41
    have h15 := S41 _ _ h15
    have r18 := r18.mono S41
    have r19 := r19.mono S41
    have h23 := S41 _ _ h23
    have hl24 := hl24.mono S41
    have hl35 := hl35.mono S41
    have h43 := R.lst (a := (List Int)) h42 hl35
    refine ⟨_, rfl, _, _, _, rfl, O40.pre0, f_tree, wp_call hk (fun r44 er45 hk F46 H47 g48 v49 r50 => ?_) (fun n hn C H1 hC kp => hn C H1 hC (O40.kp0 kp))⟩
    have O51 := O40.call0 g48
    have S_ := g48.f
    have f_tree := f_tree.mono S_
    have f_rule := f_rule.mono S_
    have h15 := S_ _ _ h15
    have r18 := r18.mono S_
    have r19 := r19.mono S_
    have h23 := S_ _ _ h23
    have hl24 := hl24.mono S_
    have h43 := h43.mono S_
    obtain ⟨p52, w53, e54, h55, hl56⟩ := R.lst_ h43
    cases e54
    obtain ⟨y57, e58, hk⟩ := wp_opt hk
    obtain ⟨w59, e60, r61⟩ := hl56.atI e58
    obtain ⟨p62, w63, e64, h65, hl66⟩ := R.lst_ r61
    cases e64
    obtain ⟨c72, L68, hL69, hLs70, hLd71⟩ := compS_L hk
    refine ⟨_, rfl, _, rfl, _, _, _, _, rfl, rfl, (SqLF O51.s h55), e60, _, rfl, ⟨_, (SqLF O51.s h65)⟩, fun p73 hp74 => ?_⟩
    have z116 := O51.was hp74
    refine lc_list (K := K) (xs := w63) (fun i H => ∃ (F_ : Hp) (st : Unit) (acc : List (List Int)) (wa : List V), Same F46 F_ ∧ Ow _ F_ [(p73, .lst wa)] H ∧ RL F_ wa acc ∧ wa.length ≤ i ∧ L68 (List.drop i y57) acc st) ⟨F46, (), [], [], Same.refl _, O51.new hp74, RL.nil, Nat.zero_le _, hL69⟩ (fun i_ H_ _ hp_ => ?_) ?_ ?_
    · obtain ⟨_, _, _, _, hS_, hO_, _⟩ := hp_
      exact SqLF hO_.s (hS_ _ _ h65)
    · rintro i75 x76 H77 hi78 ⟨F83, st84, acc80, wa81, S85, O87, hl86, la82, hL69⟩
      have f_tree := f_tree.mono S85
      have f_rule := f_rule.mono S85
      have h15 := S85 _ _ h15
      have r18 := r18.mono S85
      have r19 := r19.mono S85
      have h23 := S85 _ _ h23
      have hl24 := hl24.mono S85
      have h43 := h43.mono S85
      have r50 := r50.mono S85
      have h55 := S85 _ _ h55
      have hl56 := hl56.mono S85
      have r61 := r61.mono S85
      have h65 := S85 _ _ h65
      have hl66 := hl66.mono S85
      obtain ⟨y67, e88, r89⟩ := RL.got hl66 hi78
      rw [drop_at e88] at hL69
      have hk := hLs70 _ _ _ _ hL69
      obtain rfl := R.int_ r89
      refine ⟨rfl, ?_⟩
      refine ⟨_, rfl, _, rfl, _, rfl, _, rfl, _, rfl, _, rfl, (by show 2 ≤ sizeLine; decide), fun p90 hp91 => ?_⟩
      obtain ⟨F92, O93, S94, h95⟩ := O87.putE hp91 (.tup [V.int x_place, V.int y67])
      have f_tree := f_tree.mono S94
      have f_rule := f_rule.mono S94
      have h15 := S94 _ _ h15
      have r18 := r18.mono S94
      have r19 := r19.mono S94
      have h23 := S94 _ _ h23
      have hl24 := hl24.mono S94
      have h43 := h43.mono S94
      have r50 := r50.mono S94
      have h55 := S94 _ _ h55
      have hl56 := hl56.mono S94
      have r61 := r61.mono S94
      have h65 := S94 _ _ h65
      have hl66 := hl66.mono S94
      have S85 := S85.trans S94
      have hl86 := hl86.mono S94
      have h96 : R (a := (Int × Int)) F92 (.ref p90) (x_place, y67) := R.t2 h95 R.int R.int
      refine ⟨_, _, _, _, _, _, _, _, _, _, _, rfl, O93.pre0, f_tree, f_rule, h43, r50, h96, wp_call hk (fun r97 er98 hk F99 H100 g101 p102 w103 hn104 hf105 h106 hl107 => ?_) (fun n hn => hn.elim)⟩
      have O108 := O93.call0 g101
      have S_ := g101.f
      have f_tree := f_tree.mono S_
      have f_rule := f_rule.mono S_
      have h15 := S_ _ _ h15
      have r18 := r18.mono S_
      have r19 := r19.mono S_
      have h23 := S_ _ _ h23
      have hl24 := hl24.mono S_
      have h43 := h43.mono S_
      have r50 := r50.mono S_
      have h55 := S_ _ _ h55
      have hl56 := hl56.mono S_
      have r61 := r61.mono S_
      have h65 := S_ _ _ h65
      have hl66 := hl66.mono S_
      have S85 := S85.trans S_
      have hl86 := hl86.mono S_
      have h96 := h96.mono S_
      have O109 := O93.got O108 rfl hn104 hf105 h106
      have z110 := O93.was hn104
      obtain ⟨F111, O112, S113, h114⟩ := O109.frzE 0 rfl z110
      have f_tree := f_tree.mono S113
      have f_rule := f_rule.mono S113
      have h15 := S113 _ _ h15
      have r18 := r18.mono S113
      have r19 := r19.mono S113
      have h23 := S113 _ _ h23
      have hl24 := hl24.mono S113
      have h43 := h43.mono S113
      have r50 := r50.mono S113
      have h55 := S113 _ _ h55
      have hl56 := hl56.mono S113
      have r61 := r61.mono S113
      have h65 := S113 _ _ h65
      have hl66 := hl66.mono S113
      have S85 := S85.trans S113
      have hl86 := hl86.mono S113
      have h96 := h96.mono S113
      have hl107 := hl107.mono S113
      have h115 := R.lst (a := Int) h114 hl107
      refine ⟨_, (O112.at 0 rfl), (comp_len la82 hi78 hl66.len c72), ?_⟩
      exact ⟨F111, (), acc80 ++ [r97], wa81 ++ [V.ref p102], S85, O112.set 0 (.lst (wa81 ++ [V.ref p102])) rfl, RL.snoc hl86 h115, by rw [List.length_append]; exact Nat.succ_le_succ la82, hk⟩
    rintro H117 ⟨F118, st119, acc120, wa121, S122, O123, hl124, la125, hL126⟩
    rw [drop_end hl66.len] at hL126
    have hk := hLd71 _ _ hL126
    have f_tree := f_tree.mono S122
    have f_rule := f_rule.mono S122
    have h15 := S122 _ _ h15
    have r18 := r18.mono S122
    have r19 := r19.mono S122
    have h23 := S122 _ _ h23
    have hl24 := hl24.mono S122
    have h43 := h43.mono S122
    have r50 := r50.mono S122
    have h55 := S122 _ _ h55
    have hl56 := hl56.mono S122
    have r61 := r61.mono S122
    have h65 := S122 _ _ h65
    have hl66 := hl66.mono S122
    obtain ⟨F128, O129, S130, h131⟩ := O123.frzE 0 rfl z116
    have f_tree := f_tree.mono S130
    have f_rule := f_rule.mono S130
    have h15 := S130 _ _ h15
    have r18 := r18.mono S130
    have r19 := r19.mono S130
    have h23 := S130 _ _ h23
    have hl24 := hl24.mono S130
    have h43 := h43.mono S130
    have r50 := r50.mono S130
    have h55 := S130 _ _ h55
    have hl56 := hl56.mono S130
    have r61 := r61.mono S130
    have h65 := S130 _ _ h65
    have hl66 := hl66.mono S130
    have hl124 := hl124.mono S130
    have h132 := R.lst (a := (List Int)) h131 hl124
    refine ⟨_, rfl, _, rfl, _, rfl, _, rfl, _, rfl, _, _, _, _, _, _, _, _, rfl, O129.pre0, f_tree, f_rule, h132, wp_call hk (fun r133 er134 hk F135 H136 g137 v138 r139 => ?_) (fun n hn C H1 hC kp => hn C H1 hC (O129.kp0 kp))⟩
    have O140 := O129.call0 g137
    have S_ := g137.f
    have f_tree := f_tree.mono S_
    have f_rule := f_rule.mono S_
    have h15 := S_ _ _ h15
    have r18 := r18.mono S_
    have r19 := r19.mono S_
    have h23 := S_ _ _ h23
    have hl24 := hl24.mono S_
    have h43 := h43.mono S_
    have r50 := r50.mono S_
    have h55 := S_ _ _ h55
    have hl56 := hl56.mono S_
    have r61 := r61.mono S_
    have h65 := S_ _ _ h65
    have hl66 := hl66.mono S_
    have h132 := h132.mono S_
    obtain ⟨p141, w142, e143, h144, hl145⟩ := R.lst_ r18
    cases e143
    obtain ⟨y146, e147, hk⟩ := wp_opt hk
    obtain ⟨w148, e149, r150⟩ := hl145.atI e147
    obtain rfl := R.int_ r150
    refine ⟨_, rfl, _, _, _, _, rfl, rfl, (SqTF O140.s h15), rfl, _, rfl, _, _, _, _, rfl, rfl, (SqLF O140.s h144), e149, _, _, _, _, _, _, rfl, O140.pre0, f_rule, r139, wp_call hk (fun r151 er152 hk F153 H154 g155 => ?_) (fun n hn C H1 hC kp => hn C H1 hC (O140.kp0 kp))⟩
    have O156 := O140.call0 g155
    have S_ := g155.f
    have f_tree := f_tree.mono S_
    have f_rule := f_rule.mono S_
    have h15 := S_ _ _ h15
    have r18 := r18.mono S_
    have r19 := r19.mono S_
    have h23 := S_ _ _ h23
    have hl24 := hl24.mono S_
    have h43 := h43.mono S_
    have r50 := r50.mono S_
    have h55 := S_ _ _ h55
    have hl56 := hl56.mono S_
    have r61 := r61.mono S_
    have h65 := S_ _ _ h65
    have hl66 := hl66.mono S_
    have h132 := h132.mono S_
    have r139 := r139.mono S_
    have h144 := S_ _ _ h144
    have hl145 := hl145.mono S_
    exact hk _ _  O156.g 
abbrev s_order_of : Stmt := top 33
theorem sc_order_of : FnScope ["near", "branches", "left", "found", "at", "c", "branch", "a", "b"] ["near", "branches"] (defScope s_order_of) := ⟨rfl, rfl, rfl, by decide +kernel, rfl, by decide +kernel, by decide +kernel⟩
def m_order_of (x_near : (List (List Int))) (x_branches : (List (Int × Int))) : M ((List (Int × Int))) :=
compS (fun (y7 : (Int × Int)) (st24 : Unit) =>
opt (atI x_near y7.2) >>= fun y49 =>
.ok (some ((y7.1, y7.2), ((y49.length : Int) - (1 : Int))), ())) x_branches () >>= fun q77 =>
compS (fun (y104 : (Int × Int)) (st121 : Unit) =>
opt (dGet (mergeDT q77.1) y104) >>= fun y127 =>
if y127 = (0 : Int) then (
.ok (some y104, ()))
else (
.ok (none, ()))) x_branches () >>= fun q151 =>
whL (r := Unit) (fun (st162 : Int × (List ((Int × Int) × Int)) × (List (Int × Int))) =>
if st162.1 < (st162.2.2.length : Int) then (
opt (atI st162.2.2 st162.1) >>= fun y174 =>
opt (atI x_near y174.1) >>= fun y191 =>
loopN (fun (y201 : Int) (st212 : (List ((Int × Int) × Int)) × (List (Int × Int))) =>
if y201 ≠ y174.2 then (
opt (dGet st212.1 ((y201, y174.1).1, (y201, y174.1).2)) >>= fun y230 =>
putD st212.1 ((y201, y174.1).1, (y201, y174.1).2) (y230 - (1 : Int)) >>= fun z243 =>
opt (dGet z243 (y201, y174.1)) >>= fun y253 =>
if y253 = (0 : Int) then (
appL st212.2 (y201, y174.1) >>= fun _ =>
.ok (z243, (st212.2 ++ [(y201, y174.1)])))
else (
.ok (z243, st212.2)))
else (
.ok (st212.1, st212.2))) y191 (st162.2.1, st162.2.2) >>= fun st280 =>
.ok (.go ((st162.1 + (1 : Int)), st280.1, st280.2)))
else (
.ok (.stop (st162.1, st162.2.1, st162.2.2)))) 1000000 ((0 : Int), (mergeDT q77.1), q151.1) >>= fun f303 => match f303 with
| .rt _ => bad
| .nx st292 =>
.ok st292.2.2
def sp_order_of (mg : Str → Option Value) : Sp := fun vs H Q E => ∃ (F : Hp) (v_near : V) (x_near : (List (List Int))) (v_branches : V) (x_branches : (List (Int × Int))), vs = [v_near, v_branches] ∧ Pre F [] H ∧ R (a := (List (List Int))) F v_near x_near ∧ R (a := (List (Int × Int))) F v_branches x_branches ∧
  wp (m_order_of x_near x_branches) (fun r => ∀ (F' H' : Hp), Gr [] F H F' H' → ∀ (p : Addr) (w : (List V)), H p = none → F' p = none → H' p = some (.lst w) → RL (a := (Int × Int)) F' w r → Q (.ref p) H')
  (fun n => ∀ (C : Addr) (H' : Hp), mg (Str.ofString n) = some (.ref C) → Kp [] H H' → E (.ref C) none H')
set_option maxHeartbeats 2000000 in
theorem ok_order_of (nb : Nb mg) (D : Df K mg "order_of" "order_of" s_order_of ["near", "branches"]) : Ca P w K mg base "order_of" 1 ["near", "branches"] (sp_order_of mg) := by
  refine Ca.mk' D sc_order_of (fun vs H Q E h => ?_) (fun q_ f_ cdv A outer s H vs Q E hr h => ?_)
  · obtain ⟨F, _, _, _, _, rfl, _⟩ := h
    rfl
  · obtain ⟨F, v_near, x_near, v_branches, x_branches, rfl, P0, f_near, f_branches, hk⟩ := h
    have nd := sc_order_of.nd
    have hu64 := hr.units
    have hu128 := hu128_of hr
    have O := P0.start
    refine ⟨_, (pss_cons (ps_set (i := 2) nd rfl (Or.inr rfl) (pe_callTy (call_dictT rfl hu64) (by rfl) nb.b_dict (by decide +kernel) (pa_cons (pe_lc (own := [("a", 7), ("b", 8)]) (g := gTup K 2 (gCons (gName 7) (gCons (gName 8) (gNil)))) (tt := _) rfl nd (piListK (K := K) rfl (pv 1)) (blkOk_by (own := [("a", 7), ("b", 8)]) (N := ["near", "branches", "left", "found", "at", "c", "branch", "a", "b"]) (sc := defScope s_order_of) (by decide +kernel)) (fun _ _ _ _ _ => (pg_tup rfl (pgs_cons (pg_name (i := 7) nd rfl (Or.inl rfl)) (pgs_cons (pg_name (i := 8) nd rfl (Or.inl rfl)) pgs_nil)))) (fun _ _ _ _ _ => pts_nil) (fun _ _ _ _ _ => (pe_tup (pa_cons (pe_tup (pa_cons (pv 7) (pa_cons (pv 8) pa_nil))) (pa_cons (pe_op op_sub (pe_callB call_lenT (by rfl) nb.b_len PySem.boot_len (pa_cons (pe_ix (ixListK (K := K) rfl) (pv 0) (pv 8) (fun _ _ => rfl)) pa_nil)) pe_int) pa_nil))))) pa_nil)))
  (pss_cons (ps_setLc (i := 3) (own := [("branch", 6)]) (g := gName 6) (tt := _) rfl nd rfl rfl (sw_true rfl rfl rfl (by decide +kernel)) (piListK (K := K) rfl (pv 1)) (blkOk_by (own := [("branch", 6)]) (N := ["near", "branches", "left", "found", "at", "c", "branch", "a", "b"]) (sc := defScope s_order_of) (by decide +kernel)) (fun _ _ _ _ _ => (pg_name (i := 6) nd rfl (Or.inl rfl))) (fun _ _ _ _ _ => (pts_one (pt_cmpR (op_eqT Int hu64) (pe_dget (u1_of hu64) (pv 2) (pv 6) (fun _ _ => rfl)) pe_int (nomark _)))) (fun _ _ _ _ _ => (pv 6)))
  (pss_cons (ps_set (i := 4) nd rfl (Or.inl rfl) pe_int)
  (pss_cons (ps_while (passes_of rfl) (pt_cmpR op_lt (pv 4) (pe_callB call_lenT (by rfl) nb.b_len PySem.boot_len (pa_cons (pv 3) pa_nil)) (nomark _)) (pss_cons (ps_asg (pe_ix (ixListK (K := K) rfl) (pv 3) (pv 4) (fun _ _ => rfl)) (pg_tup rfl (pgs_cons (pg_name (i := 7) nd rfl (Or.inl rfl)) (pgs_cons (pg_name (i := 8) nd rfl (Or.inl rfl)) pgs_nil))))
  (pss_cons (ps_for (passes_of rfl) rfl (piListK (K := K) rfl (pe_ix (ixListK (K := K) rfl) (pv 0) (pv 7) (fun _ _ => rfl))) (pg_name (i := 5) nd rfl (Or.inl rfl)) (pss_one (ps_if (pt_cmpR (op_neT Int hu64) (pv 5) (pv 8) (nomark _)) (pss_cons (ps_daug (u1_of hu64) (pv 2) (pe_tup (pa_cons (pv 5) (pa_cons (pv 7) pa_nil))) pe_int in_sub (by intros; rfl))
  (pss_one (ps_if (pt_cmpR (op_eqT Int hu64) (pe_dget (u1_of hu64) (pv 2) (pe_tup (pa_cons (pv 5) (pa_cons (pv 7) pa_nil))) (fun _ _ => rfl)) pe_int (nomark _)) (pss_one (ps_expr (pe_bm PySem.F.plainAttrs_list PySem.F.slot_list_append PySem.F.type_list_append mt_append (pv 3) (pa_cons (pe_tup (pa_cons (pv 5) (pa_cons (pv 7) pa_nil))) pa_nil)))) pss_nil))) pss_nil)))
  (pss_one (ps_aug (i := 4) nd rfl (Or.inl rfl) pe_int ip_add)))))
  (pss_one (ps_ret (pv 3))))))), ?_⟩
    obtain ⟨p2, w3, e4, h5, hl6⟩ := R.lst_ f_branches
    cases e4
    obtain ⟨c12, L8, hL9, hLs10, hLd11⟩ := compS_L hk
    refine ⟨_, rfl, _, rfl, ⟨_, (SqLF O.s h5)⟩, fun p13 hp14 => ?_⟩
    have z66 := O.was hp14
    refine lc_list (K := K) (xs := w3) (fun i H => ∃ (F_ : Hp) (st : Unit) (acc : List ((Int × Int) × Int)) (wa : List V), Same F F_ ∧ Ow _ F_ [(p13, .lst wa)] H ∧ RL F_ wa acc ∧ wa.length ≤ i ∧ L8 (List.drop i x_branches) acc st) ⟨F, (), [], [], Same.refl _, O.new hp14, RL.nil, Nat.zero_le _, hL9⟩ (fun i_ H_ _ hp_ => ?_) ?_ ?_
    · obtain ⟨_, _, _, _, hS_, hO_, _⟩ := hp_
      exact SqLF hO_.s (hS_ _ _ h5)
    · rintro i15 x16 H17 hi18 ⟨F23, st24, acc20, wa21, S25, O27, hl26, la22, hL9⟩
      have f_near := f_near.mono S25
      have f_branches := f_branches.mono S25
      have h5 := S25 _ _ h5
      have hl6 := hl6.mono S25
      obtain ⟨y7, e28, r29⟩ := RL.got hl6 hi18
      rw [drop_at e28] at hL9
      have hk := hLs10 _ _ _ _ hL9
      obtain ⟨p30, v33, v34, e31, h32, r35, r36⟩ := R.t2_ r29
      cases e31
      obtain rfl := R.int_ r35
      obtain rfl := R.int_ r36
      refine ⟨_, _, rfl, (SqTF O27.s h32), rfl, _, _, rfl, _, _, rfl, rfl, rfl, ?_⟩
      refine ⟨_, rfl, _, rfl, (by show 2 ≤ sizeLine; decide), fun p37 hp38 => ?_⟩
      obtain ⟨F39, O40, S41, h42⟩ := O27.putE hp38 (.tup [V.int y7.1, V.int y7.2])
      have f_near := f_near.mono S41
      have f_branches := f_branches.mono S41
      have h5 := S41 _ _ h5
      have hl6 := hl6.mono S41
      have S25 := S25.trans S41
      have hl26 := hl26.mono S41
      have r29 := r29.mono S41
      have h32 := S41 _ _ h32
      have h43 : R (a := (Int × Int)) F39 (.ref p37) (y7.1, y7.2) := R.t2 h42 R.int R.int
      obtain ⟨p44, w45, e46, h47, hl48⟩ := R.lst_ f_near
      cases e46
      obtain ⟨y49, e50, hk⟩ := wp_opt hk
      obtain ⟨w51, e52, r53⟩ := hl48.atI e50
      obtain ⟨p54, w55, e56, h57, hl58⟩ := R.lst_ r53
      cases e56
      refine ⟨_, rfl, _, rfl, _, _, _, _, rfl, rfl, (SqLF O40.s h47), e52, _, _, _, rfl, (.inl (O40.s _ _ h57)), hl58.len, _, _, rfl, rfl, (by show 2 ≤ sizeLine; decide), fun p59 hp60 => ?_⟩
      obtain ⟨F61, O62, S63, h64⟩ := O40.putE hp60 (.tup [V.ref p37, V.int ((y49.length : Int) - (1 : Int))])
      have f_near := f_near.mono S63
      have f_branches := f_branches.mono S63
      have h5 := S63 _ _ h5
      have hl6 := hl6.mono S63
      have S25 := S25.trans S63
      have hl26 := hl26.mono S63
      have r29 := r29.mono S63
      have h32 := S63 _ _ h32
      have h43 := h43.mono S63
      have h47 := S63 _ _ h47
      have hl48 := hl48.mono S63
      have r53 := r53.mono S63
      have h57 := S63 _ _ h57
      have hl58 := hl58.mono S63
      have h65 : R (a := ((Int × Int) × Int)) F61 (.ref p59) ((y7.1, y7.2), ((y49.length : Int) - (1 : Int))) := R.t2 h64 h43 R.int
      refine ⟨_, (O62.at 0 rfl), (comp_len la22 hi18 hl6.len c12), ?_⟩
      exact ⟨F61, (), acc20 ++ [((y7.1, y7.2), ((y49.length : Int) - (1 : Int)))], wa21 ++ [V.ref p59], S25, O62.set 0 (.lst (wa21 ++ [V.ref p59])) rfl, RL.snoc hl26 h65, by rw [List.length_append]; exact Nat.succ_le_succ la22, hk⟩
    rintro H67 ⟨F68, st69, acc70, wa71, S72, O73, hl74, la75, hL76⟩
    rw [drop_end hl6.len] at hL76
    have hk := hLd11 _ _ hL76
    have f_near := f_near.mono S72
    have f_branches := f_branches.mono S72
    have h5 := S72 _ _ h5
    have hl6 := hl6.mono S72
    obtain ⟨F78, O79, S80, h81⟩ := O73.frzE 0 rfl z66
    have f_near := f_near.mono S80
    have f_branches := f_branches.mono S80
    have h5 := S80 _ _ h5
    have hl6 := hl6.mono S80
    have hl74 := hl74.mono S80
    have h82 := R.lst (a := ((Int × Int) × Int)) h81 hl74
    obtain ⟨p83, w84, e85, h86, hl87⟩ := R.lst_ h82
    cases e85
    obtain ⟨ps88, kvs89, e90, hps91, hl92⟩ := pairsT_of_rl (K := K) O79.s hl87
    refine ⟨_, ps88, kvs89, rfl, (by rw [← e90]; exact (SqLF O79.s h86)), hps91, fun p93 hp94 => ?_⟩
    have hl95 : RD (κ := (Int × Int)) (β := Int) F78 (mergeT [] kvs89) (mergeDT acc70) := mergeT_rd hl92 .nil
    have z97 := O79.was hp94
    have O96 := O79.new (o := .dT (mergeT [] kvs89)) hp94
    obtain ⟨p99, w100, e101, h102, hl103⟩ := R.lst_ f_branches
    cases e101
    obtain ⟨c109, L105, hL106, hLs107, hLd108⟩ := compS_L hk
    refine ⟨_, rfl, _, rfl, ⟨_, (SqLF O96.s h102)⟩, fun p110 hp111 => ?_⟩
    have z140 := O96.was hp111
    refine lc_list (K := K) (xs := w100) (fun i H => ∃ (F_ : Hp) (st : Unit) (acc : List (Int × Int)) (wa : List V), Same F78 F_ ∧ Ow _ F_ [(p110, .lst wa), (p93, .dT (mergeT [] kvs89))] H ∧ RL F_ wa acc ∧ wa.length ≤ i ∧ L105 (List.drop i x_branches) acc st) ⟨F78, (), [], [], Same.refl _, O96.new hp111, RL.nil, Nat.zero_le _, hL106⟩ (fun i_ H_ _ hp_ => ?_) ?_ ?_
    · obtain ⟨_, _, _, _, hS_, hO_, _⟩ := hp_
      exact SqLF hO_.s (hS_ _ _ h102)
    · rintro i112 x113 H114 hi115 ⟨F120, st121, acc117, wa118, S122, O124, hl123, la119, hL106⟩
      have f_near := f_near.mono S122
      have f_branches := f_branches.mono S122
      have h5 := S122 _ _ h5
      have hl6 := hl6.mono S122
      have h82 := h82.mono S122
      have h86 := S122 _ _ h86
      have hl87 := hl87.mono S122
      have hl92 := hl92.mono S122
      have hl95 := hl95.mono S122
      have h102 := S122 _ _ h102
      have hl103 := hl103.mono S122
      obtain ⟨y104, e125, r126⟩ := RL.got hl103 hi115
      rw [drop_at e125] at hL106
      have hk := hLs107 _ _ _ _ hL106
      obtain ⟨p132, v135, v136, e133, h134, r137, r138⟩ := R.t2_ r126
      cases e133
      obtain rfl := R.int_ r137
      obtain rfl := R.int_ r138
      obtain ⟨y127, e128, hk⟩ := wp_opt hk
      obtain ⟨w129, e130, r131⟩ := RD.some hl95 (k := (y104.1, y104.2)) e128
      obtain rfl := R.int_ r131
      refine ⟨rfl, _, rfl, _, rfl, _, _, rfl, (dget_T (O124.at 1 rfl) (O124.s _ _ h134) e130), _, _, R.int, R.int, _, rfl, ?_⟩
      refine iteD (fun q139 => ?_) (fun q139 => ?_)
      · have hk := wp_if hk q139
        refine ⟨_, rfl, _, (O124.at 0 rfl), (comp_len la119 hi115 hl103.len c109), ?_⟩
        exact ⟨F120, (), acc117 ++ [y104], wa118 ++ [V.ref p132], S122, O124.set 0 (.lst (wa118 ++ [V.ref p132])) rfl, RL.snoc hl123 r126, by rw [List.length_append]; exact Nat.succ_le_succ la119, hk⟩
      · have hk := wp_el hk q139
        exact ⟨F120, (), acc117, wa118, S122, O124, hl123, Nat.le_succ_of_le la119, hk⟩
    rintro H141 ⟨F142, st143, acc144, wa145, S146, O147, hl148, la149, hL150⟩
    rw [drop_end hl103.len] at hL150
    have hk := hLd108 _ _ hL150
    have f_near := f_near.mono S146
    have f_branches := f_branches.mono S146
    have h5 := S146 _ _ h5
    have hl6 := hl6.mono S146
    have h82 := h82.mono S146
    have h86 := S146 _ _ h86
    have hl87 := hl87.mono S146
    have hl92 := hl92.mono S146
    have hl95 := hl95.mono S146
    have h102 := S146 _ _ h102
    have hl103 := hl103.mono S146
    obtain ⟨L152, X153, hL154, hLs155, hLd156⟩ := whL_L hk
    refine while_P (fun n σ H_ => ∃ (F_ : Hp) (st : Int × (List ((Int × Int) × Int)) × (List (Int × Int))) (w_0 : (List (List Key × V))) (w_1 : (List V)) (t_0 : Option V) (t_1 : Option V) (t_2 : Option V), σ = [some v_near, some (V.ref p2), some (V.ref p93), some (V.ref p110), some (V.int st.1), t_2, none, t_0, t_1] ∧ Same F142 F_ ∧ Ow (⟨[], F, H⟩ : Ent) F_ [(p110, .lst w_1), (p93, .dT w_0)] H_ ∧ RD (κ := (Int × Int)) (β := Int) F_ w_0 st.2.1 ∧ RL (a := (Int × Int)) F_ w_1 st.2.2 ∧ L152 n st) (fun σ H_ => ∃ (F_ : Hp) (st : Int × (List ((Int × Int) × Int)) × (List (Int × Int))) (w_0 : (List (List Key × V))) (w_1 : (List V)) (t_0 : Option V) (t_1 : Option V) (t_2 : Option V), σ = [some v_near, some (V.ref p2), some (V.ref p93), some (V.ref p110), some (V.int st.1), t_2, none, t_0, t_1] ∧ Same F142 F_ ∧ Ow (⟨[], F, H⟩ : Ent) F_ [(p110, .lst w_1), (p93, .dT w_0)] H_ ∧ RD (κ := (Int × Int)) (β := Int) F_ w_0 st.2.1 ∧ RL (a := (Int × Int)) F_ w_1 st.2.2 ∧ X153 st) 1000000 ⟨F142, ((0 : Int), (mergeDT acc70), acc144), (mergeT [] kvs89), wa145, none, none, none, rfl, Same.refl _, O147, hl95, hl148, hL154⟩ ?_ ?_
    rotate_left
    · rintro hex157 m158 sg159 H160 ⟨F171, st162, w164, w165, t168, t169, t170, rfl, S161, O172, hl166, hl167, hL163⟩
      have f_near := f_near.mono S161
      have f_branches := f_branches.mono S161
      have h5 := S161 _ _ h5
      have hl6 := hl6.mono S161
      have h82 := h82.mono S161
      have h86 := S161 _ _ h86
      have hl87 := hl87.mono S161
      have hl92 := hl92.mono S161
      have h102 := S161 _ _ h102
      have hl103 := hl103.mono S161
      have hk := hLs155 _ _ hL163
      refine ⟨_, rfl, _, rfl, _, _, _, rfl, (.inl (O172.at 0 rfl)), hl167.len, _, _, rfl, rfl, _, rfl, ?_⟩
      refine iteD (fun q173 => ?_) (fun q173 => ?_)
      · have hk := wp_if hk q173
        obtain ⟨y174, e175, hk⟩ := wp_opt hk
        obtain ⟨w176, e177, r178⟩ := hl167.atI e175
        obtain ⟨p179, v182, v183, e180, h181, r184, r185⟩ := R.t2_ r178
        cases e180
        obtain rfl := R.int_ r184
        obtain rfl := R.int_ r185
        obtain ⟨p186, w187, e188, h189, hl190⟩ := R.lst_ f_near
        cases e188
        obtain ⟨y191, e192, hk⟩ := wp_opt hk
        obtain ⟨w193, e194, r195⟩ := hl190.atI e192
        obtain ⟨p196, w197, e198, h199, hl200⟩ := R.lst_ r195
        cases e198
        obtain ⟨L202, hL203, hLs204, hLd205⟩ := loopN_L hk
        refine ⟨_, (fun _ _ h_ => h_), _, rfl, _, rfl, _, _, _, _, rfl, rfl, (SqL.of (O172.at 0 rfl)), e177, _, _, rfl, (SqTF O172.s h181), rfl, _, _, rfl, _, _, rfl, rfl, _, rfl, _, rfl, _, _, _, _, rfl, rfl, (SqLF O172.s h189), e194, _, rfl, ⟨_, (SqLF O172.s h199)⟩, ?_⟩
        refine for_list (K := K) (xs := w197) (fun i σ H => ∃ (F_ : Hp) (st : (List ((Int × Int) × Int)) × (List (Int × Int))) (w_0 : (List (List Key × V))) (w_1 : (List V)) (t_0 : Option V), σ = [some (V.ref p186), some (V.ref p2), some (V.ref p93), some (V.ref p110), some (V.int st162.1), t_0, none, some (V.int y174.1), some (V.int y174.2)] ∧ Same F171 F_ ∧ Ow _ F_ [(p110, .lst w_1), (p93, .dT w_0)] H ∧ RD (κ := (Int × Int)) (β := Int) F_ w_0 st.1 ∧ RL (a := (Int × Int)) F_ w_1 st.2 ∧ L202 (List.drop i y191) st) ⟨F171, (st162.2.1, st162.2.2), w164, w165, t170, rfl, Same.refl _, O172, hl166, hl167, hL203⟩ (fun i_ σ_ H_ _ hp_ => ?_) ?_ ?_
        · obtain ⟨_, _, _, _, _, _, hS_, hO_, _⟩ := hp_
          exact SqLF hO_.s (hS_ _ _ h199)
        · rintro i206 x207 sg208 H209 hi210 ⟨F218, st212, w213, w214, t217, rfl, S211, O219, hl215, hl216, hL203⟩
          have f_near := f_near.mono S211
          have f_branches := f_branches.mono S211
          have h5 := S211 _ _ h5
          have hl6 := hl6.mono S211
          have h82 := h82.mono S211
          have h86 := S211 _ _ h86
          have hl87 := hl87.mono S211
          have hl92 := hl92.mono S211
          have h102 := S211 _ _ h102
          have hl103 := hl103.mono S211
          have S161 := S161.trans S211
          have r178 := r178.mono S211
          have h181 := S211 _ _ h181
          have h189 := S211 _ _ h189
          have hl190 := hl190.mono S211
          have r195 := r195.mono S211
          have h199 := S211 _ _ h199
          have hl200 := hl200.mono S211
          obtain ⟨y201, e220, r221⟩ := RL.got hl200 hi210
          rw [drop_at e220] at hL203
          have hk := hLs204 _ _ _ hL203
          obtain rfl := R.int_ r221
          refine ⟨_, rfl, _, rfl, _, _, R.int, R.int, _, rfl, ?_⟩
          refine iteD (fun q222 => ?_) (fun q222 => ?_)
          · have hk := wp_if hk q222
            refine ⟨_, rfl, _, rfl, _, rfl, (by show 2 ≤ sizeLine; decide), fun p223 hp224 => ?_⟩
            obtain ⟨F225, O226, S227, h228⟩ := O219.putE hp224 (.tup [V.int y201, V.int y174.1])
            have f_near := f_near.mono S227
            have f_branches := f_branches.mono S227
            have h5 := S227 _ _ h5
            have hl6 := hl6.mono S227
            have h82 := h82.mono S227
            have h86 := S227 _ _ h86
            have hl87 := hl87.mono S227
            have hl92 := hl92.mono S227
            have h102 := S227 _ _ h102
            have hl103 := hl103.mono S227
            have S161 := S161.trans S227
            have r178 := r178.mono S227
            have h181 := S227 _ _ h181
            have h189 := S227 _ _ h189
            have hl190 := hl190.mono S227
            have r195 := r195.mono S227
            have h199 := S227 _ _ h199
            have hl200 := hl200.mono S227
            have hl215 := hl215.mono S227
            have hl216 := hl216.mono S227
            have S211 := S211.trans S227
            have h229 : R (a := (Int × Int)) F225 (.ref p223) (y201, y174.1) := R.t2 h228 R.int R.int
            obtain ⟨p235, v238, v239, e236, h237, r240, r241⟩ := R.t2_ h229
            cases e236
            obtain rfl := R.int_ r240
            obtain rfl := R.int_ r241
            obtain ⟨y230, e231, hk⟩ := wp_opt hk
            obtain ⟨w232, e233, r234⟩ := RD.some hl215 (k := ((y201, y174.1).1, (y201, y174.1).2)) e231
            obtain rfl := R.int_ r234
            obtain ⟨c242, hk⟩ := wp_putD hk
            refine ⟨_, _, rfl, (dget_T (O226.at 1 rfl) (O226.s _ _ h237) e233), _, _, rfl, rfl, _, (dput_T (v := V.int (y230 - (1 : Int))) (O226.at 1 rfl) (O226.s _ _ h237) (by rw [RD.len hl215]; exact c242)), ?_⟩
            have O244 := O226.set 1 (.dT (putK w213 (DK.kk ((y201, y174.1).1, (y201, y174.1).2)) (V.int (y230 - (1 : Int))))) rfl
            have hl245 : RD (κ := (Int × Int)) (β := Int) F225 (putK w213 (DK.kk ((y201, y174.1).1, (y201, y174.1).2)) (V.int (y230 - (1 : Int)))) (dPut st212.1 ((y201, y174.1).1, (y201, y174.1).2) (y230 - (1 : Int))) := RD.put hl215 ((y201, y174.1).1, (y201, y174.1).2) R.int
            refine ⟨_, rfl, _, rfl, _, rfl, (by show 2 ≤ sizeLine; decide), fun p246 hp247 => ?_⟩
            obtain ⟨F248, O249, S250, h251⟩ := O244.putE hp247 (.tup [V.int y201, V.int y174.1])
            have f_near := f_near.mono S250
            have f_branches := f_branches.mono S250
            have h5 := S250 _ _ h5
            have hl6 := hl6.mono S250
            have h82 := h82.mono S250
            have h86 := S250 _ _ h86
            have hl87 := hl87.mono S250
            have hl92 := hl92.mono S250
            have h102 := S250 _ _ h102
            have hl103 := hl103.mono S250
            have S161 := S161.trans S250
            have r178 := r178.mono S250
            have h181 := S250 _ _ h181
            have h189 := S250 _ _ h189
            have hl190 := hl190.mono S250
            have r195 := r195.mono S250
            have h199 := S250 _ _ h199
            have hl200 := hl200.mono S250
            have hl216 := hl216.mono S250
            have S211 := S211.trans S250
            have h229 := h229.mono S250
            have h237 := S250 _ _ h237
            have hl245 := hl245.mono S250
            have h252 : R (a := (Int × Int)) F248 (.ref p246) (y201, y174.1) := R.t2 h251 R.int R.int
            obtain ⟨p258, v261, v262, e259, h260, r263, r264⟩ := R.t2_ h252
            cases e259
            obtain rfl := R.int_ r263
            obtain rfl := R.int_ r264
            obtain ⟨y253, e254, hk⟩ := wp_opt hk
            obtain ⟨w255, e256, r257⟩ := RD.some hl245 (k := ((y201, y174.1).1, (y201, y174.1).2)) e254
            obtain rfl := R.int_ r257
            refine ⟨_, _, rfl, (dget_T (O249.at 1 rfl) (O249.s _ _ h260) e256), _, _, R.int, R.int, _, rfl, ?_⟩
            refine iteD (fun q265 => ?_) (fun q265 => ?_)
            · have hk := wp_if hk q265
              refine ⟨_, rfl, (.inl ⟨rfl, _, SqL.of (O249.at 0 rfl)⟩), _, rfl, _, rfl, (by show 2 ≤ sizeLine; decide), fun p266 hp267 => ?_⟩
              obtain ⟨F268, O269, S270, h271⟩ := O249.putE hp267 (.tup [V.int y201, V.int y174.1])
              have f_near := f_near.mono S270
              have f_branches := f_branches.mono S270
              have h5 := S270 _ _ h5
              have hl6 := hl6.mono S270
              have h82 := h82.mono S270
              have h86 := S270 _ _ h86
              have hl87 := hl87.mono S270
              have hl92 := hl92.mono S270
              have h102 := S270 _ _ h102
              have hl103 := hl103.mono S270
              have S161 := S161.trans S270
              have r178 := r178.mono S270
              have h181 := S270 _ _ h181
              have h189 := S270 _ _ h189
              have hl190 := hl190.mono S270
              have r195 := r195.mono S270
              have h199 := S270 _ _ h199
              have hl200 := hl200.mono S270
              have hl216 := hl216.mono S270
              have S211 := S211.trans S270
              have h229 := h229.mono S270
              have h237 := S270 _ _ h237
              have hl245 := hl245.mono S270
              have h252 := h252.mono S270
              have h260 := S270 _ _ h260
              have h272 : R (a := (Int × Int)) F268 (.ref p266) (y201, y174.1) := R.t2 h271 R.int R.int
              obtain ⟨c273, hk⟩ := wp_appL hk
              refine ⟨_, _, _, rfl, rfl, (O269.at 0 rfl), (by rw [hl216.len]; exact c273), ?_⟩
              have O275 := O269.set 0 (.lst (w214 ++ [V.ref p266])) rfl
              have hl276 : RL (a := (Int × Int)) F268 (w214 ++ [V.ref p266]) (st212.2 ++ [(y201, y174.1)]) := RL.snoc hl216 h272
              exact ⟨F268, ((dPut st212.1 ((y201, y174.1).1, (y201, y174.1).2) (y230 - (1 : Int))), (st212.2 ++ [(y201, y174.1)])), (putK w213 (DK.kk ((y201, y174.1).1, (y201, y174.1).2)) (V.int (y230 - (1 : Int)))), (w214 ++ [V.ref p266]), some (V.int y201), rfl, S211, O275, hl245, hl276, hk⟩
            · have hk := wp_el hk q265
              exact ⟨F248, ((dPut st212.1 ((y201, y174.1).1, (y201, y174.1).2) (y230 - (1 : Int))), st212.2), (putK w213 (DK.kk ((y201, y174.1).1, (y201, y174.1).2)) (V.int (y230 - (1 : Int)))), w214, some (V.int y201), rfl, S211, O249, hl245, hl216, hk⟩
          · have hk := wp_el hk q222
            exact ⟨F218, (st212.1, st212.2), w213, w214, some (V.int y201), rfl, S211, O219, hl215, hl216, hk⟩
        rintro sg277 H278 ⟨F287, st280, w282, w283, t286, rfl, S279, O288, hl284, hl285, hL281⟩
        rw [drop_end hl200.len] at hL281
        have hk := hLd205 _ hL281
        have f_near := f_near.mono S279
        have f_branches := f_branches.mono S279
        have h5 := S279 _ _ h5
        have hl6 := hl6.mono S279
        have h82 := h82.mono S279
        have h86 := S279 _ _ h86
        have hl87 := hl87.mono S279
        have hl92 := hl92.mono S279
        have h102 := S279 _ _ h102
        have hl103 := hl103.mono S279
        have S161 := S161.trans S279
        have r178 := r178.mono S279
        have h181 := S279 _ _ h181
        have h189 := S279 _ _ h189
        have hl190 := hl190.mono S279
        have r195 := r195.mono S279
        have h199 := S279 _ _ h199
        have hl200 := hl200.mono S279
        refine ⟨_, rfl, _, _, rfl, rfl, ?_⟩
        obtain ⟨m_, hm_, hk⟩ := hk
        exact ⟨m_, hm_, F287, ((st162.1 + (1 : Int)), st280.1, st280.2), w282, w283, some (V.int y174.1), some (V.int y174.2), t286, rfl, S161, O288, hl284, hl285, hk⟩
      · have hk := wp_el hk q173
        exact hex157 _ _ ⟨F171, (st162.1, st162.2.1, st162.2.2), w164, w165, t168, t169, t170, rfl, S161, O172, hl166, hl167, hk⟩
    rintro sg289 H290 ⟨F301, st292, w294, w295, t298, t299, t300, rfl, S291, O302, hl296, hl297, hL293⟩
    have hk := hLd156 _ hL293
    have f_near := f_near.mono S291
    have f_branches := f_branches.mono S291
    have h5 := S291 _ _ h5
    have hl6 := hl6.mono S291
    have h82 := h82.mono S291
    have h86 := S291 _ _ h86
    have hl87 := hl87.mono S291
    have hl92 := hl92.mono S291
    have h102 := S291 _ _ h102
    have hl103 := hl103.mono S291
    refine ⟨_, rfl, ?_⟩
    exact hk _ _  O302.g  _ _ z140 (O302.cf _ (List.mem_of_getElem? (i := 0) rfl)) (O302.at 0 rfl) hl297
abbrev s_rows_known : Stmt := top 34
theorem sc_rows_known : FnScope ["tree", "rule", "near", "lengths", "rows", "a", "b", "more", "c"] ["tree", "rule"] (defScope s_rows_known) := ⟨rfl, rfl, rfl, by decide +kernel, rfl, by decide +kernel, by decide +kernel⟩
def m_rows_known (x_tree : ((List Int) × (List (T3 Int Int Int)))) (x_rule : (T4 (List Sm) (List Sm) (List Sm) Sm)) : M ((List ((Int × Int) × (List Int)))) :=
m_tied_places (x_tree.1.length : Int) x_tree.2 >>= fun r13 =>
m_lengths_of x_tree >>= fun r32 =>
m_every_branch x_tree >>= fun r46 =>
m_order_of r13 r46 >>= fun r65 =>
loopN (fun (y89 : (Int × Int)) (st100 : (List ((Int × Int) × (List Int)))) =>
opt (atI r13 y89.2) >>= fun y122 =>
compS (fun (y132 : Int) (st149 : Unit) =>
if y132 ≠ y89.1 then (
opt (dGet st100 (y89.2, y132)) >>= fun y163 =>
.ok (some y163, ()))
else (
.ok (none, ()))) y122 () >>= fun q186 =>
m_row_with x_tree x_rule y89.2 q186.1 >>= fun r192 =>
opt (atI x_tree.1 y89.2) >>= fun y205 =>
opt (dGet r32 (y89.1, y89.2)) >>= fun y222 =>
m_over_tie x_rule r192 y205 y222 >>= fun r234 =>
putD st100 ((y89.1, y89.2).1, (y89.1, y89.2).2) r234 >>= fun z268 =>
.ok z268) r65 ([] : (List ((Int × Int) × (List Int)))) >>= fun st274 =>
.ok st274
def sp_rows_known (mg : Str → Option Value) : Sp := fun vs H Q E => ∃ (F : Hp) (v_tree : V) (x_tree : ((List Int) × (List (T3 Int Int Int)))) (v_rule : V) (x_rule : (T4 (List Sm) (List Sm) (List Sm) Sm)), vs = [v_tree, v_rule] ∧ Pre F [] H ∧ R (a := ((List Int) × (List (T3 Int Int Int)))) F v_tree x_tree ∧ R (a := (T4 (List Sm) (List Sm) (List Sm) Sm)) F v_rule x_rule ∧
  wp (m_rows_known x_tree x_rule) (fun r => ∀ (F' H' : Hp), Gr [] F H F' H' → ∀ v : V, RDv (κ := (Int × Int)) (β := (List Int)) F' v r → Q v H')
  (fun n => ∀ (C : Addr) (H' : Hp), mg (Str.ofString n) = some (.ref C) → Kp [] H H' → E (.ref C) none H')
set_option maxHeartbeats 2000000 in
theorem ok_rows_known (nb : Nb mg) (C_every_branch : Ca P w K mg base "every_branch" 2 ["tree"] (sp_every_branch mg)) (C_lengths_of : Ca P w K mg base "lengths_of" 1 ["tree"] (sp_lengths_of mg)) (C_order_of : Ca P w K mg base "order_of" 1 ["near", "branches"] (sp_order_of mg)) (C_over_tie : Ca P w K mg base "over_tie" 14 ["rule", "more", "own", "tie"] (sp_over_tie mg)) (C_row_with : Ca P w K mg base "row_with" 15 ["tree", "rule", "place", "near"] (sp_row_with mg)) (C_tied_places : Ca P w K mg base "tied_places" 1 ["many", "ties"] (sp_tied_places mg)) (D : Df K mg "rows_known" "rows_known" s_rows_known ["tree", "rule"]) : Ca P w K mg base "rows_known" 16 ["tree", "rule"] (sp_rows_known mg) := by
  obtain ⟨fa_every_branch, fd_every_branch, G_every_branch, M_every_branch, K_every_branch, B_every_branch⟩ := C_every_branch.ex
  obtain ⟨fa_lengths_of, fd_lengths_of, G_lengths_of, M_lengths_of, K_lengths_of, B_lengths_of⟩ := C_lengths_of.ex
  obtain ⟨fa_order_of, fd_order_of, G_order_of, M_order_of, K_order_of, B_order_of⟩ := C_order_of.ex
  obtain ⟨fa_over_tie, fd_over_tie, G_over_tie, M_over_tie, K_over_tie, B_over_tie⟩ := C_over_tie.ex
  obtain ⟨fa_row_with, fd_row_with, G_row_with, M_row_with, K_row_with, B_row_with⟩ := C_row_with.ex
  obtain ⟨fa_tied_places, fd_tied_places, G_tied_places, M_tied_places, K_tied_places, B_tied_places⟩ := C_tied_places.ex
  refine Ca.mk' D sc_rows_known (fun vs H Q E h => ?_) (fun q_ f_ cdv A outer s H vs Q E hr h => ?_)
  · obtain ⟨F, _, _, _, _, rfl, _⟩ := h
    rfl
  · obtain ⟨F, v_tree, x_tree, v_rule, x_rule, rfl, P0, f_tree, f_rule, hk⟩ := h
    have nd := sc_rows_known.nd
    have hu64 := hr.units
    have hu128 := hu128_of hr
    have O := P0.start
    refine ⟨_, (pss_cons (ps_set (i := 2) nd rfl (Or.inl rfl) (pe_call G_tied_places (hr.mono (by decide)) rfl M_tied_places K_tied_places B_tied_places .nil (passes_call (takes_of rfl rfl rfl rfl) fun _ _ _ _ h => h) (pa_cons (pe_callB call_lenT (by rfl) nb.b_len PySem.boot_len (pa_cons (pe_ix (ixTupK (K := K) rfl) (pv 0) pe_int (fun _ _ => rfl)) pa_nil)) (pa_cons (pe_ix (ixTupK (K := K) rfl) (pv 0) pe_int (fun _ _ => rfl)) pa_nil))))
  (pss_cons (ps_set (i := 3) nd rfl (Or.inl rfl) (pe_call G_lengths_of (hr.mono (by decide)) rfl M_lengths_of K_lengths_of B_lengths_of .nil (passes_call (takes_of rfl rfl rfl rfl) fun _ _ _ _ h => h) (pa_cons (pv 0) pa_nil)))
  (pss_cons (ps_set (i := 4) nd rfl (Or.inr rfl) pe_dnewT)
  (pss_cons (ps_for (passes_of rfl) rfl (piListK (K := K) rfl (pe_call G_order_of (hr.mono (by decide)) rfl M_order_of K_order_of B_order_of .nil (passes_call (takes_of rfl rfl rfl rfl) fun _ _ _ _ h => h) (pa_cons (pv 2) (pa_cons (pe_call G_every_branch (hr.mono (by decide)) rfl M_every_branch K_every_branch B_every_branch .nil (passes_call (takes_of rfl rfl rfl rfl) fun _ _ _ _ h => h) (pa_cons (pv 0) pa_nil)) pa_nil)))) (pg_tup rfl (pgs_cons (pg_name (i := 5) nd rfl (Or.inr rfl)) (pgs_cons (pg_name (i := 6) nd rfl (Or.inr rfl)) pgs_nil))) (pss_cons (ps_set (i := 7) nd rfl (Or.inl rfl) (pe_call G_row_with (hr.mono (by decide)) rfl M_row_with K_row_with B_row_with .nil (passes_call (takes_of rfl rfl rfl rfl) fun _ _ _ _ h => h) (pa_cons (pv 0) (pa_cons (pv 1) (pa_cons (pv 6) (pa_cons (pe_lc (own := [("c", 8)]) (g := gName 8) (tt := _) rfl nd (piListK (K := K) rfl (pe_ix (ixListK (K := K) rfl) (pv 2) (pv 6) (fun _ _ => rfl))) (blkOk_by (own := [("c", 8)]) (N := ["tree", "rule", "near", "lengths", "rows", "a", "b", "more", "c"]) (sc := defScope s_rows_known) (by decide +kernel)) (fun _ _ _ _ _ => (pg_name (i := 8) nd rfl (Or.inl rfl))) (fun _ _ _ _ _ => (pts_one (pt_cmpR (op_neT Int hu64) (pv 8) (pv 5) (nomark _)))) (fun _ _ _ _ _ => (pe_dget (u1_of hu64) (pv 4) (pe_tup (pa_cons (pv 6) (pa_cons (pv 8) pa_nil))) (fun _ _ => rfl)))) pa_nil))))))
  (pss_one (ps_dput (u1_of hu64) (pv 4) (pe_tup (pa_cons (pv 5) (pa_cons (pv 6) pa_nil))) (pe_call G_over_tie (hr.mono (by decide)) rfl M_over_tie K_over_tie B_over_tie .nil (passes_call (takes_of rfl rfl rfl rfl) fun _ _ _ _ h => h) (pa_cons (pv 1) (pa_cons (pv 7) (pa_cons (pe_ix (ixListK (K := K) rfl) (pe_ix (ixTupK (K := K) rfl) (pv 0) pe_int (fun _ _ => rfl)) (pv 6) (fun _ _ => rfl)) (pa_cons (pe_dget (u1_of hu64) (pv 3) (pe_tup (pa_cons (pv 5) (pa_cons (pv 6) pa_nil))) (fun _ _ => rfl)) pa_nil))))) rfl))))
  (pss_one (ps_ret (pv 4))))))), ?_⟩
    obtain ⟨p1, v4, v5, e2, h3, r6, r7⟩ := R.t2_ f_tree
    cases e2
    obtain ⟨p8, w9, e10, h11, hl12⟩ := R.lst_ r6
    cases e10
    refine ⟨_, rfl, _, _, _, _, rfl, rfl, (SqTF O.s h3), rfl, _, _, _, rfl, (.inl (O.s _ _ h11)), hl12.len, _, rfl, _, _, _, _, rfl, rfl, (SqTF O.s h3), rfl, _, _, _, _, rfl, O.pre0, r7, wp_call hk (fun r13 er14 hk F15 H16 g17 p18 w19 hn20 hf21 h22 hl23 => ?_) (fun n hn C H1 hC kp => hn C H1 hC (O.kp0 kp))⟩
    have O24 := O.call0 g17
    have S_ := g17.f
    have f_tree := f_tree.mono S_
    have f_rule := f_rule.mono S_
    have h3 := S_ _ _ h3
    have r6 := r6.mono S_
    have r7 := r7.mono S_
    have h11 := S_ _ _ h11
    have hl12 := hl12.mono S_
    have O25 := O.got O24 rfl hn20 hf21 h22
    have z26 := O.was hn20
    obtain ⟨F27, O28, S29, h30⟩ := O25.frzE 0 rfl z26
    have f_tree := f_tree.mono S29
    have f_rule := f_rule.mono S29
    have h3 := S29 _ _ h3
    have r6 := r6.mono S29
    have r7 := r7.mono S29
    have h11 := S29 _ _ h11
    have hl12 := hl12.mono S29
    have hl23 := hl23.mono S29
    have h31 := R.lst (a := (List Int)) h30 hl23
    refine ⟨_, rfl, _, _, _, rfl, O28.pre0, f_tree, wp_call hk (fun r32 er33 hk F34 H35 g36 v37 r38 => ?_) (fun n hn C H1 hC kp => hn C H1 hC (O28.kp0 kp))⟩
    have O39 := O28.call0 g36
    have S_ := g36.f
    have f_tree := f_tree.mono S_
    have f_rule := f_rule.mono S_
    have h3 := S_ _ _ h3
    have r6 := r6.mono S_
    have r7 := r7.mono S_
    have h11 := S_ _ _ h11
    have hl12 := hl12.mono S_
    have h31 := h31.mono S_
    refine fun p41 hp42 => ?_
    have hl44 : RD (κ := (Int × Int)) (β := (List Int)) F34 [] ([] : (List ((Int × Int) × (List Int)))) := RD.nil
    have z45 := O39.was hp42
    have O43 := O39.new (o := .dT []) hp42
    refine ⟨_, rfl, _, rfl, _, _, _, rfl, O43.pre0, f_tree, wp_call hk (fun r46 er47 hk F48 H49 g50 p51 w52 hn53 hf54 h55 hl56 => ?_) (fun n hn C H1 hC kp => hn C H1 hC (O43.kp0 kp))⟩
    have O57 := O43.call0 g50
    have S_ := g50.f
    have f_tree := f_tree.mono S_
    have f_rule := f_rule.mono S_
    have h3 := S_ _ _ h3
    have r6 := r6.mono S_
    have r7 := r7.mono S_
    have h11 := S_ _ _ h11
    have hl12 := hl12.mono S_
    have h31 := h31.mono S_
    have r38 := r38.mono S_
    have hl44 := hl44.mono S_
    have O58 := O43.got O57 rfl hn53 hf54 h55
    have z59 := O43.was hn53
    obtain ⟨F60, O61, S62, h63⟩ := O58.frzE 0 rfl z59
    have f_tree := f_tree.mono S62
    have f_rule := f_rule.mono S62
    have h3 := S62 _ _ h3
    have r6 := r6.mono S62
    have r7 := r7.mono S62
    have h11 := S62 _ _ h11
    have hl12 := hl12.mono S62
    have h31 := h31.mono S62
    have r38 := r38.mono S62
    have hl44 := hl44.mono S62
    have hl56 := hl56.mono S62
    have h64 := R.lst (a := (Int × Int)) h63 hl56
    refine ⟨_, _, _, _, _, rfl, O61.pre0, h31, h64, wp_call hk (fun r65 er66 hk F67 H68 g69 p70 w71 hn72 hf73 h74 hl75 => ?_) (fun n hn C H1 hC kp => hn C H1 hC (O61.kp0 kp))⟩
    have O76 := O61.call0 g69
    have S_ := g69.f
    have f_tree := f_tree.mono S_
    have f_rule := f_rule.mono S_
    have h3 := S_ _ _ h3
    have r6 := r6.mono S_
    have r7 := r7.mono S_
    have h11 := S_ _ _ h11
    have hl12 := hl12.mono S_
    have h31 := h31.mono S_
    have r38 := r38.mono S_
    have hl44 := hl44.mono S_
    have h64 := h64.mono S_
    have O77 := O61.got O76 rfl hn72 hf73 h74
    have z78 := O61.was hn72
    obtain ⟨F79, O80, S81, h82⟩ := O77.frzE 0 rfl z78
    have f_tree := f_tree.mono S81
    have f_rule := f_rule.mono S81
    have h3 := S81 _ _ h3
    have r6 := r6.mono S81
    have r7 := r7.mono S81
    have h11 := S81 _ _ h11
    have hl12 := hl12.mono S81
    have h31 := h31.mono S81
    have r38 := r38.mono S81
    have hl44 := hl44.mono S81
    have h64 := h64.mono S81
    have hl75 := hl75.mono S81
    have h83 := R.lst (a := (Int × Int)) h82 hl75
    obtain ⟨p84, w85, e86, h87, hl88⟩ := R.lst_ h83
    cases e86
    obtain ⟨L90, hL91, hLs92, hLd93⟩ := loopN_L hk
    refine ⟨_, rfl, ⟨_, (SqLF O80.s h87)⟩, ?_⟩
    refine for_list (K := K) (xs := w85) (fun i σ H => ∃ (F_ : Hp) (st : (List ((Int × Int) × (List Int)))) (w_0 : (List (List Key × V))) (t_0 : Option V) (t_1 : Option V) (t_2 : Option V), σ = [some (V.ref p1), some v_rule, some (V.ref p18), some v37, some (V.ref p41), t_0, t_1, t_2, none] ∧ Same F79 F_ ∧ Ow _ F_ [(p41, .dT w_0)] H ∧ RD (κ := (Int × Int)) (β := (List Int)) F_ w_0 st ∧ L90 (List.drop i r65) st) ⟨F79, ([] : (List ((Int × Int) × (List Int)))), [], none, none, none, rfl, Same.refl _, O80, hl44, hL91⟩ (fun i_ σ_ H_ _ hp_ => ?_) ?_ ?_
    · obtain ⟨_, _, _, _, _, _, _, hS_, hO_, _⟩ := hp_
      exact SqLF hO_.s (hS_ _ _ h87)
    · rintro i94 x95 sg96 H97 hi98 ⟨F106, st100, w101, t103, t104, t105, rfl, S99, O107, hl102, hL91⟩
      have f_tree := f_tree.mono S99
      have f_rule := f_rule.mono S99
      have h3 := S99 _ _ h3
      have r6 := r6.mono S99
      have r7 := r7.mono S99
      have h11 := S99 _ _ h11
      have hl12 := hl12.mono S99
      have h31 := h31.mono S99
      have r38 := r38.mono S99
      have h64 := h64.mono S99
      have h83 := h83.mono S99
      have h87 := S99 _ _ h87
      have hl88 := hl88.mono S99
      obtain ⟨y89, e108, r109⟩ := RL.got hl88 hi98
      rw [drop_at e108] at hL91
      have hk := hLs92 _ _ _ hL91
      obtain ⟨p110, v113, v114, e111, h112, r115, r116⟩ := R.t2_ r109
      cases e111
      obtain rfl := R.int_ r115
      obtain rfl := R.int_ r116
      obtain ⟨p117, w118, e119, h120, hl121⟩ := R.lst_ h31
      cases e119
      obtain ⟨y122, e123, hk⟩ := wp_opt hk
      obtain ⟨w124, e125, r126⟩ := hl121.atI e123
      obtain ⟨p127, w128, e129, h130, hl131⟩ := R.lst_ r126
      cases e129
      obtain ⟨c137, L133, hL134, hLs135, hLd136⟩ := compS_L hk
      refine ⟨_, _, rfl, (SqTF O107.s h112), rfl, _, _, rfl, _, _, rfl, rfl, _, rfl, _, rfl, _, rfl, _, rfl, _, rfl, _, _, _, _, rfl, rfl, (SqLF O107.s h120), e125, _, rfl, ⟨_, (SqLF O107.s h130)⟩, fun p138 hp139 => ?_⟩
      have z175 := O107.was hp139
      refine lc_list (K := K) (xs := w128) (fun i H => ∃ (F_ : Hp) (st : Unit) (acc : List (List Int)) (wa : List V), Same F106 F_ ∧ Ow _ F_ [(p138, .lst wa), (p41, .dT w101)] H ∧ RL F_ wa acc ∧ wa.length ≤ i ∧ L133 (List.drop i y122) acc st) ⟨F106, (), [], [], Same.refl _, O107.new hp139, RL.nil, Nat.zero_le _, hL134⟩ (fun i_ H_ _ hp_ => ?_) ?_ ?_
      · obtain ⟨_, _, _, _, hS_, hO_, _⟩ := hp_
        exact SqLF hO_.s (hS_ _ _ h130)
      · rintro i140 x141 H142 hi143 ⟨F148, st149, acc145, wa146, S150, O152, hl151, la147, hL134⟩
        have f_tree := f_tree.mono S150
        have f_rule := f_rule.mono S150
        have h3 := S150 _ _ h3
        have r6 := r6.mono S150
        have r7 := r7.mono S150
        have h11 := S150 _ _ h11
        have hl12 := hl12.mono S150
        have h31 := h31.mono S150
        have r38 := r38.mono S150
        have h64 := h64.mono S150
        have h83 := h83.mono S150
        have h87 := S150 _ _ h87
        have hl88 := hl88.mono S150
        have hl102 := hl102.mono S150
        have S99 := S99.trans S150
        have r109 := r109.mono S150
        have h112 := S150 _ _ h112
        have h120 := S150 _ _ h120
        have hl121 := hl121.mono S150
        have r126 := r126.mono S150
        have h130 := S150 _ _ h130
        have hl131 := hl131.mono S150
        obtain ⟨y132, e153, r154⟩ := RL.got hl131 hi143
        rw [drop_at e153] at hL134
        have hk := hLs135 _ _ _ _ hL134
        obtain rfl := R.int_ r154
        refine ⟨rfl, _, rfl, _, rfl, _, _, R.int, R.int, _, rfl, ?_⟩
        refine iteD (fun q155 => ?_) (fun q155 => ?_)
        · have hk := wp_if hk q155
          refine ⟨_, rfl, _, rfl, _, rfl, (by show 2 ≤ sizeLine; decide), fun p156 hp157 => ?_⟩
          obtain ⟨F158, O159, S160, h161⟩ := O152.putE hp157 (.tup [V.int y89.2, V.int y132])
          have f_tree := f_tree.mono S160
          have f_rule := f_rule.mono S160
          have h3 := S160 _ _ h3
          have r6 := r6.mono S160
          have r7 := r7.mono S160
          have h11 := S160 _ _ h11
          have hl12 := hl12.mono S160
          have h31 := h31.mono S160
          have r38 := r38.mono S160
          have h64 := h64.mono S160
          have h83 := h83.mono S160
          have h87 := S160 _ _ h87
          have hl88 := hl88.mono S160
          have hl102 := hl102.mono S160
          have S99 := S99.trans S160
          have r109 := r109.mono S160
          have h112 := S160 _ _ h112
          have h120 := S160 _ _ h120
          have hl121 := hl121.mono S160
          have r126 := r126.mono S160
          have h130 := S160 _ _ h130
          have hl131 := hl131.mono S160
          have S150 := S150.trans S160
          have hl151 := hl151.mono S160
          have h162 : R (a := (Int × Int)) F158 (.ref p156) (y89.2, y132) := R.t2 h161 R.int R.int
          obtain ⟨p168, v171, v172, e169, h170, r173, r174⟩ := R.t2_ h162
          cases e169
          obtain rfl := R.int_ r173
          obtain rfl := R.int_ r174
          obtain ⟨y163, e164, hk⟩ := wp_opt hk
          obtain ⟨w165, e166, r167⟩ := RD.some hl102 (k := ((y89.2, y132).1, (y89.2, y132).2)) e164
          refine ⟨_, _, rfl, (dget_T (O159.at 1 rfl) (O159.s _ _ h170) e166), _, (O159.at 0 rfl), (comp_len la147 hi143 hl131.len c137), ?_⟩
          exact ⟨F158, (), acc145 ++ [y163], wa146 ++ [w165], S150, O159.set 0 (.lst (wa146 ++ [w165])) rfl, RL.snoc hl151 r167, by rw [List.length_append]; exact Nat.succ_le_succ la147, hk⟩
        · have hk := wp_el hk q155
          exact ⟨F148, (), acc145, wa146, S150, O152, hl151, Nat.le_succ_of_le la147, hk⟩
      rintro H176 ⟨F177, st178, acc179, wa180, S181, O182, hl183, la184, hL185⟩
      rw [drop_end hl131.len] at hL185
      have hk := hLd136 _ _ hL185
      have f_tree := f_tree.mono S181
      have f_rule := f_rule.mono S181
      have h3 := S181 _ _ h3
      have r6 := r6.mono S181
      have r7 := r7.mono S181
      have h11 := S181 _ _ h11
      have hl12 := hl12.mono S181
      have h31 := h31.mono S181
      have r38 := r38.mono S181
      have h64 := h64.mono S181
      have h83 := h83.mono S181
      have h87 := S181 _ _ h87
      have hl88 := hl88.mono S181
      have hl102 := hl102.mono S181
      have S99 := S99.trans S181
      have r109 := r109.mono S181
      have h112 := S181 _ _ h112
      have h120 := S181 _ _ h120
      have hl121 := hl121.mono S181
      have r126 := r126.mono S181
      have h130 := S181 _ _ h130
      have hl131 := hl131.mono S181
      obtain ⟨F187, O188, S189, h190⟩ := O182.frzE 0 rfl z175
      have f_tree := f_tree.mono S189
      have f_rule := f_rule.mono S189
      have h3 := S189 _ _ h3
      have r6 := r6.mono S189
      have r7 := r7.mono S189
      have h11 := S189 _ _ h11
      have hl12 := hl12.mono S189
      have h31 := h31.mono S189
      have r38 := r38.mono S189
      have h64 := h64.mono S189
      have h83 := h83.mono S189
      have h87 := S189 _ _ h87
      have hl88 := hl88.mono S189
      have hl102 := hl102.mono S189
      have S99 := S99.trans S189
      have r109 := r109.mono S189
      have h112 := S189 _ _ h112
      have h120 := S189 _ _ h120
      have hl121 := hl121.mono S189
      have r126 := r126.mono S189
      have h130 := S189 _ _ h130
      have hl131 := hl131.mono S189
      have hl183 := hl183.mono S189
      have h191 := R.lst (a := (List Int)) h190 hl183
      refine ⟨_, _, _, _, _, _, _, _, rfl, O188.pre0, f_tree, f_rule, h191, wp_call hk (fun r192 er193 hk F194 H195 g196 v197 r198 => ?_) (fun n hn C H1 hC kp => hn C H1 hC (O188.kp0 kp))⟩
      have O199 := O188.call0 g196
      have S_ := g196.f
      have f_tree := f_tree.mono S_
      have f_rule := f_rule.mono S_
      have h3 := S_ _ _ h3
      have r6 := r6.mono S_
      have r7 := r7.mono S_
      have h11 := S_ _ _ h11
      have hl12 := hl12.mono S_
      have h31 := h31.mono S_
      have r38 := r38.mono S_
      have h64 := h64.mono S_
      have h83 := h83.mono S_
      have h87 := S_ _ _ h87
      have hl88 := hl88.mono S_
      have hl102 := hl102.mono S_
      have S99 := S99.trans S_
      have r109 := r109.mono S_
      have h112 := S_ _ _ h112
      have h120 := S_ _ _ h120
      have hl121 := hl121.mono S_
      have r126 := r126.mono S_
      have h130 := S_ _ _ h130
      have hl131 := hl131.mono S_
      have h191 := h191.mono S_
      obtain ⟨p200, w201, e202, h203, hl204⟩ := R.lst_ r6
      cases e202
      obtain ⟨y205, e206, hk⟩ := wp_opt hk
      obtain ⟨w207, e208, r209⟩ := hl204.atI e206
      obtain rfl := R.int_ r209
      refine ⟨_, rfl, _, rfl, _, rfl, _, _, _, _, rfl, rfl, (SqTF O199.s h3), rfl, _, rfl, _, _, _, _, rfl, rfl, (SqLF O199.s h203), e208, _, rfl, _, rfl, _, rfl, (by show 2 ≤ sizeLine; decide), fun p210 hp211 => ?_⟩
      obtain ⟨F212, O213, S214, h215⟩ := O199.putE hp211 (.tup [V.int y89.1, V.int y89.2])
      have f_tree := f_tree.mono S214
      have f_rule := f_rule.mono S214
      have h3 := S214 _ _ h3
      have r6 := r6.mono S214
      have r7 := r7.mono S214
      have h11 := S214 _ _ h11
      have hl12 := hl12.mono S214
      have h31 := h31.mono S214
      have r38 := r38.mono S214
      have h64 := h64.mono S214
      have h83 := h83.mono S214
      have h87 := S214 _ _ h87
      have hl88 := hl88.mono S214
      have hl102 := hl102.mono S214
      have S99 := S99.trans S214
      have r109 := r109.mono S214
      have h112 := S214 _ _ h112
      have h120 := S214 _ _ h120
      have hl121 := hl121.mono S214
      have r126 := r126.mono S214
      have h130 := S214 _ _ h130
      have hl131 := hl131.mono S214
      have h191 := h191.mono S214
      have r198 := r198.mono S214
      have h203 := S214 _ _ h203
      have hl204 := hl204.mono S214
      have h216 : R (a := (Int × Int)) F212 (.ref p210) (y89.1, y89.2) := R.t2 h215 R.int R.int
      obtain ⟨p217, w218, e219, h220, hl221⟩ := r38
      cases e219
      have h220 : F212 _ = some (.dT w218) := h220
      have r38 := RDv.mk (κ := (Int × Int)) (β := Int) h220 hl221
      obtain ⟨p227, v230, v231, e228, h229, r232, r233⟩ := R.t2_ h216
      cases e228
      obtain rfl := R.int_ r232
      obtain rfl := R.int_ r233
      obtain ⟨y222, e223, hk⟩ := wp_opt hk
      obtain ⟨w224, e225, r226⟩ := RD.some hl221 (k := ((y89.1, y89.2).1, (y89.1, y89.2).2)) e223
      obtain rfl := R.int_ r226
      refine ⟨_, _, rfl, (dget_T (O213.s _ _ h220) (O213.s _ _ h229) e225), _, _, _, _, _, _, _, rfl, O213.pre0, f_rule, r198, wp_call hk (fun r234 er235 hk F236 H237 g238 p239 w240 hn241 hf242 h243 hl244 => ?_) (fun n hn C H1 hC kp => hn C H1 hC (O213.kp0 kp))⟩
      have O245 := O213.call0 g238
      have S_ := g238.f
      have f_tree := f_tree.mono S_
      have f_rule := f_rule.mono S_
      have h3 := S_ _ _ h3
      have r6 := r6.mono S_
      have r7 := r7.mono S_
      have h11 := S_ _ _ h11
      have hl12 := hl12.mono S_
      have h31 := h31.mono S_
      have r38 := r38.mono S_
      have h64 := h64.mono S_
      have h83 := h83.mono S_
      have h87 := S_ _ _ h87
      have hl88 := hl88.mono S_
      have hl102 := hl102.mono S_
      have S99 := S99.trans S_
      have r109 := r109.mono S_
      have h112 := S_ _ _ h112
      have h120 := S_ _ _ h120
      have hl121 := hl121.mono S_
      have r126 := r126.mono S_
      have h130 := S_ _ _ h130
      have hl131 := hl131.mono S_
      have h191 := h191.mono S_
      have r198 := r198.mono S_
      have h203 := S_ _ _ h203
      have hl204 := hl204.mono S_
      have h216 := h216.mono S_
      have h220 := S_ _ _ h220
      have hl221 := hl221.mono S_
      have h229 := S_ _ _ h229
      have O246 := O213.got O245 rfl hn241 hf242 h243
      have z247 := O213.was hn241
      obtain ⟨F248, O249, S250, h251⟩ := O246.frzE 0 rfl z247
      have f_tree := f_tree.mono S250
      have f_rule := f_rule.mono S250
      have h3 := S250 _ _ h3
      have r6 := r6.mono S250
      have r7 := r7.mono S250
      have h11 := S250 _ _ h11
      have hl12 := hl12.mono S250
      have h31 := h31.mono S250
      have r38 := r38.mono S250
      have h64 := h64.mono S250
      have h83 := h83.mono S250
      have h87 := S250 _ _ h87
      have hl88 := hl88.mono S250
      have hl102 := hl102.mono S250
      have S99 := S99.trans S250
      have r109 := r109.mono S250
      have h112 := S250 _ _ h112
      have h120 := S250 _ _ h120
      have hl121 := hl121.mono S250
      have r126 := r126.mono S250
      have h130 := S250 _ _ h130
      have hl131 := hl131.mono S250
      have h191 := h191.mono S250
      have r198 := r198.mono S250
      have h203 := S250 _ _ h203
      have hl204 := hl204.mono S250
      have h216 := h216.mono S250
      have h220 := S250 _ _ h220
      have hl221 := hl221.mono S250
      have h229 := S250 _ _ h229
      have hl244 := hl244.mono S250
      have h252 := R.lst (a := Int) h251 hl244
      refine ⟨_, rfl, _, rfl, _, rfl, (by show 2 ≤ sizeLine; decide), fun p253 hp254 => ?_⟩
      obtain ⟨F255, O256, S257, h258⟩ := O249.putE hp254 (.tup [V.int y89.1, V.int y89.2])
      have f_tree := f_tree.mono S257
      have f_rule := f_rule.mono S257
      have h3 := S257 _ _ h3
      have r6 := r6.mono S257
      have r7 := r7.mono S257
      have h11 := S257 _ _ h11
      have hl12 := hl12.mono S257
      have h31 := h31.mono S257
      have r38 := r38.mono S257
      have h64 := h64.mono S257
      have h83 := h83.mono S257
      have h87 := S257 _ _ h87
      have hl88 := hl88.mono S257
      have hl102 := hl102.mono S257
      have S99 := S99.trans S257
      have r109 := r109.mono S257
      have h112 := S257 _ _ h112
      have h120 := S257 _ _ h120
      have hl121 := hl121.mono S257
      have r126 := r126.mono S257
      have h130 := S257 _ _ h130
      have hl131 := hl131.mono S257
      have h191 := h191.mono S257
      have r198 := r198.mono S257
      have h203 := S257 _ _ h203
      have hl204 := hl204.mono S257
      have h216 := h216.mono S257
      have h220 := S257 _ _ h220
      have hl221 := hl221.mono S257
      have h229 := S257 _ _ h229
      have h252 := h252.mono S257
      have h259 : R (a := (Int × Int)) F255 (.ref p253) (y89.1, y89.2) := R.t2 h258 R.int R.int
      obtain ⟨p260, v263, v264, e261, h262, r265, r266⟩ := R.t2_ h259
      cases e261
      obtain rfl := R.int_ r265
      obtain rfl := R.int_ r266
      obtain ⟨c267, hk⟩ := wp_putD hk
      refine ⟨_, _, rfl, (dput_T (v := (V.ref p239)) (O256.at 0 rfl) (O256.s _ _ h262) (by rw [RD.len hl102]; exact c267)), ?_⟩
      have O269 := O256.set 0 (.dT (putK w101 (DK.kk ((y89.1, y89.2).1, (y89.1, y89.2).2)) (V.ref p239))) rfl
      have hl270 : RD (κ := (Int × Int)) (β := (List Int)) F255 (putK w101 (DK.kk ((y89.1, y89.2).1, (y89.1, y89.2).2)) (V.ref p239)) (dPut st100 ((y89.1, y89.2).1, (y89.1, y89.2).2) r234) := RD.put hl102 ((y89.1, y89.2).1, (y89.1, y89.2).2) h252
      exact ⟨F255, (dPut st100 ((y89.1, y89.2).1, (y89.1, y89.2).2) r234), (putK w101 (DK.kk ((y89.1, y89.2).1, (y89.1, y89.2).2)) (V.ref p239)), some (V.int y89.1), some (V.int y89.2), some v197, rfl, S99, O269, hl270, hk⟩
    rintro sg271 H272 ⟨F281, st274, w276, t278, t279, t280, rfl, S273, O282, hl277, hL275⟩
    rw [drop_end hl88.len] at hL275
    have hk := hLd93 _ hL275
    have f_tree := f_tree.mono S273
    have f_rule := f_rule.mono S273
    have h3 := S273 _ _ h3
    have r6 := r6.mono S273
    have r7 := r7.mono S273
    have h11 := S273 _ _ h11
    have hl12 := hl12.mono S273
    have h31 := h31.mono S273
    have r38 := r38.mono S273
    have h64 := h64.mono S273
    have h83 := h83.mono S273
    have h87 := S273 _ _ h87
    have hl88 := hl88.mono S273
    obtain ⟨F283, O284, S285, h286⟩ := O282.frzE 0 rfl z45
    have f_tree := f_tree.mono S285
    have f_rule := f_rule.mono S285
    have h3 := S285 _ _ h3
    have r6 := r6.mono S285
    have r7 := r7.mono S285
    have h11 := S285 _ _ h11
    have hl12 := hl12.mono S285
    have h31 := h31.mono S285
    have r38 := r38.mono S285
    have h64 := h64.mono S285
    have h83 := h83.mono S285
    have h87 := S285 _ _ h87
    have hl88 := hl88.mono S285
    have hl277 := hl277.mono S285
    have h287 := RDv.mk (κ := (Int × Int)) (β := (List Int)) h286 hl277
    refine ⟨_, rfl, ?_⟩
    exact hk _ _  O284.g  _ h287
abbrev s_seats_by : Stmt := top 35
theorem sc_seats_by : FnScope ["tree", "rule", "rows", "near", "found", "place", "own", "c"] ["tree", "rule", "rows"] (defScope s_seats_by) := ⟨rfl, rfl, rfl, by decide +kernel, rfl, by decide +kernel, by decide +kernel⟩
def m_seats_by (x_tree : ((List Int) × (List (T3 Int Int Int)))) (x_rule : (T4 (List Sm) (List Sm) (List Sm) Sm)) (x_rows : (List ((Int × Int) × (List Int)))) : M ((List Int)) :=
m_tied_places (x_tree.1.length : Int) x_tree.2 >>= fun r13 =>
loopN (fun (y43 : (Int × Int)) (st54 : (List Int)) =>
opt (atI r13 y43.1) >>= fun y88 =>
compS (fun (y98 : Int) (st115 : Unit) =>
opt (dGet x_rows (y43.1, y98)) >>= fun y133 =>
.ok (some y133, ())) y88 () >>= fun q156 =>
m_row_with x_tree x_rule y43.1 q156.1 >>= fun r162 =>
m_told_by x_rule r162 y43.2 >>= fun r170 =>
appL st54 r170 >>= fun _ =>
.ok (st54 ++ [r170])) (enumL x_tree.1) ([] : List Int) >>= fun st183 =>
.ok st183
def sp_seats_by (mg : Str → Option Value) : Sp := fun vs H Q E => ∃ (F : Hp) (v_tree : V) (x_tree : ((List Int) × (List (T3 Int Int Int)))) (v_rule : V) (x_rule : (T4 (List Sm) (List Sm) (List Sm) Sm)) (v_rows : V) (x_rows : (List ((Int × Int) × (List Int)))), vs = [v_tree, v_rule, v_rows] ∧ Pre F [] H ∧ R (a := ((List Int) × (List (T3 Int Int Int)))) F v_tree x_tree ∧ R (a := (T4 (List Sm) (List Sm) (List Sm) Sm)) F v_rule x_rule ∧ RDv (κ := (Int × Int)) (β := (List Int)) F v_rows x_rows ∧
  wp (m_seats_by x_tree x_rule x_rows) (fun r => ∀ (F' H' : Hp), Gr [] F H F' H' → ∀ (p : Addr) (w : (List V)), H p = none → F' p = none → H' p = some (.lst w) → RL (a := Int) F' w r → Q (.ref p) H')
  (fun n => ∀ (C : Addr) (H' : Hp), mg (Str.ofString n) = some (.ref C) → Kp [] H H' → E (.ref C) none H')
set_option maxHeartbeats 2000000 in
theorem ok_seats_by (nb : Nb mg) (C_row_with : Ca P w K mg base "row_with" 15 ["tree", "rule", "place", "near"] (sp_row_with mg)) (C_tied_places : Ca P w K mg base "tied_places" 1 ["many", "ties"] (sp_tied_places mg)) (C_told_by : Ca P w K mg base "told_by" 14 ["rule", "so", "own"] (sp_told_by mg)) (D : Df K mg "seats_by" "seats_by" s_seats_by ["tree", "rule", "rows"]) : Ca P w K mg base "seats_by" 16 ["tree", "rule", "rows"] (sp_seats_by mg) := by
  obtain ⟨fa_row_with, fd_row_with, G_row_with, M_row_with, K_row_with, B_row_with⟩ := C_row_with.ex
  obtain ⟨fa_tied_places, fd_tied_places, G_tied_places, M_tied_places, K_tied_places, B_tied_places⟩ := C_tied_places.ex
  obtain ⟨fa_told_by, fd_told_by, G_told_by, M_told_by, K_told_by, B_told_by⟩ := C_told_by.ex
  refine Ca.mk' D sc_seats_by (fun vs H Q E h => ?_) (fun q_ f_ cdv A outer s H vs Q E hr h => ?_)
  · obtain ⟨F, _, _, _, _, _, _, rfl, _⟩ := h
    rfl
  · obtain ⟨F, v_tree, x_tree, v_rule, x_rule, v_rows, x_rows, rfl, P0, f_tree, f_rule, f_rows, hk⟩ := h
    have nd := sc_seats_by.nd
    have hu64 := hr.units
    have hu128 := hu128_of hr
    have O := P0.start
    refine ⟨_, (pss_cons (ps_set (i := 3) nd rfl (Or.inl rfl) (pe_call G_tied_places (hr.mono (by decide)) rfl M_tied_places K_tied_places B_tied_places .nil (passes_call (takes_of rfl rfl rfl rfl) fun _ _ _ _ h => h) (pa_cons (pe_callB call_lenT (by rfl) nb.b_len PySem.boot_len (pa_cons (pe_ix (ixTupK (K := K) rfl) (pv 0) pe_int (fun _ _ => rfl)) pa_nil)) (pa_cons (pe_ix (ixTupK (K := K) rfl) (pv 0) pe_int (fun _ _ => rfl)) pa_nil))))
  (pss_cons (ps_set (i := 4) nd rfl (Or.inl rfl) (pe_lst pa_nil))
  (pss_cons (ps_for (passes_of rfl) rfl (piEnumK (K := K) rfl rfl nb.b_enumerate (pa_cons (pe_ix (ixTupK (K := K) rfl) (pv 0) pe_int (fun _ _ => rfl)) pa_nil)) (pg_tup rfl (pgs_cons (pg_name (i := 5) nd rfl (Or.inr rfl)) (pgs_cons (pg_name (i := 6) nd rfl (Or.inl rfl)) pgs_nil))) (pss_one (ps_expr (pe_bm PySem.F.plainAttrs_list PySem.F.slot_list_append PySem.F.type_list_append mt_append (pv 4) (pa_cons (pe_call G_told_by (hr.mono (by decide)) rfl M_told_by K_told_by B_told_by .nil (passes_call (takes_of rfl rfl rfl rfl) fun _ _ _ _ h => h) (pa_cons (pv 1) (pa_cons (pe_call G_row_with (hr.mono (by decide)) rfl M_row_with K_row_with B_row_with .nil (passes_call (takes_of rfl rfl rfl rfl) fun _ _ _ _ h => h) (pa_cons (pv 0) (pa_cons (pv 1) (pa_cons (pv 5) (pa_cons (pe_lc (own := [("c", 7)]) (g := gName 7) (tt := _) rfl nd (piListK (K := K) rfl (pe_ix (ixListK (K := K) rfl) (pv 3) (pv 5) (fun _ _ => rfl))) (blkOk_by (own := [("c", 7)]) (N := ["tree", "rule", "rows", "near", "found", "place", "own", "c"]) (sc := defScope s_seats_by) (by decide +kernel)) (fun _ _ _ _ _ => (pg_name (i := 7) nd rfl (Or.inl rfl))) (fun _ _ _ _ _ => pts_nil) (fun _ _ _ _ _ => (pe_dget (u1_of hu64) (pv 2) (pe_tup (pa_cons (pv 5) (pa_cons (pv 7) pa_nil))) (fun _ _ => rfl)))) pa_nil))))) (pa_cons (pv 6) pa_nil)))) pa_nil)))))
  (pss_one (ps_ret (pv 4)))))), ?_⟩
    obtain ⟨p1, v4, v5, e2, h3, r6, r7⟩ := R.t2_ f_tree
    cases e2
    obtain ⟨p8, w9, e10, h11, hl12⟩ := R.lst_ r6
    cases e10
    refine ⟨_, rfl, _, _, _, _, rfl, rfl, (SqTF O.s h3), rfl, _, _, _, rfl, (.inl (O.s _ _ h11)), hl12.len, _, rfl, _, _, _, _, rfl, rfl, (SqTF O.s h3), rfl, _, _, _, _, rfl, O.pre0, r7, wp_call hk (fun r13 er14 hk F15 H16 g17 p18 w19 hn20 hf21 h22 hl23 => ?_) (fun n hn C H1 hC kp => hn C H1 hC (O.kp0 kp))⟩
    have O24 := O.call0 g17
    have S_ := g17.f
    have f_tree := f_tree.mono S_
    have f_rule := f_rule.mono S_
    have f_rows := f_rows.mono S_
    have h3 := S_ _ _ h3
    have r6 := r6.mono S_
    have r7 := r7.mono S_
    have h11 := S_ _ _ h11
    have hl12 := hl12.mono S_
    have O25 := O.got O24 rfl hn20 hf21 h22
    have z26 := O.was hn20
    obtain ⟨F27, O28, S29, h30⟩ := O25.frzE 0 rfl z26
    have f_tree := f_tree.mono S29
    have f_rule := f_rule.mono S29
    have f_rows := f_rows.mono S29
    have h3 := S29 _ _ h3
    have r6 := r6.mono S29
    have r7 := r7.mono S29
    have h11 := S29 _ _ h11
    have hl12 := hl12.mono S29
    have hl23 := hl23.mono S29
    have h31 := R.lst (a := (List Int)) h30 hl23
    refine ⟨(by show 0 ≤ sizeLine; decide), fun p33 hp34 => ?_⟩
    have hl36 : RL (a := Int) F27 ([]) ([] : List Int) := RL.nil
    have z37 := O28.was hp34
    have O35 := O28.new (o := .lst ([])) hp34
    obtain ⟨p38, w39, e40, h41, hl42⟩ := R.lst_ r6
    cases e40
    obtain ⟨L44, hL45, hLs46, hLd47⟩ := loopN_L hk
    refine ⟨_, rfl, _, _, _, _, rfl, rfl, (SqTF O35.s h3), rfl, _, _, rfl, (SqLF O35.s h41), ?_⟩
    refine for_it (walk_enum (K := K) (xs := w39)) (fun i σ H => ∃ (F_ : Hp) (st : (List Int)) (w_0 : (List V)) (t_0 : Option V) (t_1 : Option V), σ = [some (V.ref p1), some v_rule, some v_rows, some (V.ref p18), some (V.ref p33), t_0, t_1, none] ∧ Same F27 F_ ∧ Ow _ F_ [(p33, .lst w_0)] H ∧ RL (a := Int) F_ w_0 st ∧ L44 (List.drop i (enumL x_tree.1)) st) ⟨F27, ([] : List Int), [], none, none, rfl, Same.refl _, O35, hl36, hL45⟩ (fun i_ σ_ H_ _ hp_ => ?_) ?_ ?_
    · obtain ⟨_, _, _, _, _, _, hS_, hO_, _⟩ := hp_
      exact SqLF hO_.s (hS_ _ _ h41)
    · rintro i48 _ sg50 H51 _ hi52 ⟨F59, st54, w55, t57, t58, rfl, S53, O60, hl56, hL45⟩ ⟨T61, x62, y63, rfl, hT64, rfl, hx65, hy66⟩
      have f_tree := f_tree.mono S53
      have f_rule := f_rule.mono S53
      have f_rows := f_rows.mono S53
      have h3 := S53 _ _ h3
      have r6 := r6.mono S53
      have r7 := r7.mono S53
      have h11 := S53 _ _ h11
      have hl12 := hl12.mono S53
      have h31 := h31.mono S53
      have h41 := S53 _ _ h41
      have hl42 := hl42.mono S53
      cases hx65
      obtain ⟨y67, e68, r69⟩ := RL.got hl42 hy66
      rw [enumL_get e68] at hL45
      have hk := hLs46 _ _ _ hL45
      obtain ⟨F70, O71, S72, h73⟩ := O60.putE hT64 (.tup [V.int (i48 : Int), y63])
      have f_tree := f_tree.mono S72
      have f_rule := f_rule.mono S72
      have f_rows := f_rows.mono S72
      have h3 := S72 _ _ h3
      have r6 := r6.mono S72
      have r7 := r7.mono S72
      have h11 := S72 _ _ h11
      have hl12 := hl12.mono S72
      have h31 := h31.mono S72
      have h41 := S72 _ _ h41
      have hl42 := hl42.mono S72
      have hl56 := hl56.mono S72
      have S53 := S53.trans S72
      have r69 := r69.mono S72
      obtain ⟨y43, he75⟩ : ∃ z_, z_ = ((i48 : Int), y67) := ⟨_, rfl⟩
      try rw [← he75] at hk
      have h74 : R (a := (Int × Int)) F70 (.ref T61) y43 := by rw [he75]; exact R.t2 h73 R.int r69
      obtain ⟨p76, v79, v80, e77, h78, r81, r82⟩ := R.t2_ h74
      cases e77
      obtain rfl := R.int_ r81
      obtain rfl := R.int_ r82
      obtain ⟨p83, w84, e85, h86, hl87⟩ := R.lst_ h31
      cases e85
      obtain ⟨y88, e89, hk⟩ := wp_opt hk
      obtain ⟨w90, e91, r92⟩ := hl87.atI e89
      obtain ⟨p93, w94, e95, h96, hl97⟩ := R.lst_ r92
      cases e95
      obtain ⟨c103, L99, hL100, hLs101, hLd102⟩ := compS_L hk
      refine ⟨_, _, rfl, (SqTF O71.s h78), rfl, _, _, rfl, _, _, rfl, rfl, _, rfl, (.inl ⟨rfl, _, SqL.of (O71.at 0 rfl)⟩), _, rfl, _, rfl, _, rfl, _, rfl, _, rfl, _, rfl, _, _, _, _, rfl, rfl, (SqLF O71.s h86), e91, _, rfl, ⟨_, (SqLF O71.s h96)⟩, fun p104 hp105 => ?_⟩
      have z145 := O71.was hp105
      refine lc_list (K := K) (xs := w94) (fun i H => ∃ (F_ : Hp) (st : Unit) (acc : List (List Int)) (wa : List V), Same F70 F_ ∧ Ow _ F_ [(p104, .lst wa), (p33, .lst w55)] H ∧ RL F_ wa acc ∧ wa.length ≤ i ∧ L99 (List.drop i y88) acc st) ⟨F70, (), [], [], Same.refl _, O71.new hp105, RL.nil, Nat.zero_le _, hL100⟩ (fun i_ H_ _ hp_ => ?_) ?_ ?_
      · obtain ⟨_, _, _, _, hS_, hO_, _⟩ := hp_
        exact SqLF hO_.s (hS_ _ _ h96)
      · rintro i106 x107 H108 hi109 ⟨F114, st115, acc111, wa112, S116, O118, hl117, la113, hL100⟩
        have f_tree := f_tree.mono S116
        have f_rule := f_rule.mono S116
        have f_rows := f_rows.mono S116
        have h3 := S116 _ _ h3
        have r6 := r6.mono S116
        have r7 := r7.mono S116
        have h11 := S116 _ _ h11
        have hl12 := hl12.mono S116
        have h31 := h31.mono S116
        have h41 := S116 _ _ h41
        have hl42 := hl42.mono S116
        have hl56 := hl56.mono S116
        have S53 := S53.trans S116
        have r69 := r69.mono S116
        have h74 := h74.mono S116
        have h78 := S116 _ _ h78
        have h86 := S116 _ _ h86
        have hl87 := hl87.mono S116
        have r92 := r92.mono S116
        have h96 := S116 _ _ h96
        have hl97 := hl97.mono S116
        obtain ⟨y98, e119, r120⟩ := RL.got hl97 hi109
        rw [drop_at e119] at hL100
        have hk := hLs101 _ _ _ _ hL100
        obtain rfl := R.int_ r120
        refine ⟨rfl, ?_⟩
        refine ⟨_, rfl, _, rfl, _, rfl, (by show 2 ≤ sizeLine; decide), fun p121 hp122 => ?_⟩
        obtain ⟨F123, O124, S125, h126⟩ := O118.putE hp122 (.tup [V.int y43.1, V.int y98])
        have f_tree := f_tree.mono S125
        have f_rule := f_rule.mono S125
        have f_rows := f_rows.mono S125
        have h3 := S125 _ _ h3
        have r6 := r6.mono S125
        have r7 := r7.mono S125
        have h11 := S125 _ _ h11
        have hl12 := hl12.mono S125
        have h31 := h31.mono S125
        have h41 := S125 _ _ h41
        have hl42 := hl42.mono S125
        have hl56 := hl56.mono S125
        have S53 := S53.trans S125
        have r69 := r69.mono S125
        have h74 := h74.mono S125
        have h78 := S125 _ _ h78
        have h86 := S125 _ _ h86
        have hl87 := hl87.mono S125
        have r92 := r92.mono S125
        have h96 := S125 _ _ h96
        have hl97 := hl97.mono S125
        have S116 := S116.trans S125
        have hl117 := hl117.mono S125
        have h127 : R (a := (Int × Int)) F123 (.ref p121) (y43.1, y98) := R.t2 h126 R.int R.int
        obtain ⟨p128, w129, e130, h131, hl132⟩ := f_rows
        cases e130
        have h131 : F123 _ = some (.dT w129) := h131
        have f_rows := RDv.mk (κ := (Int × Int)) (β := (List Int)) h131 hl132
        obtain ⟨p138, v141, v142, e139, h140, r143, r144⟩ := R.t2_ h127
        cases e139
        obtain rfl := R.int_ r143
        obtain rfl := R.int_ r144
        obtain ⟨y133, e134, hk⟩ := wp_opt hk
        obtain ⟨w135, e136, r137⟩ := RD.some hl132 (k := ((y43.1, y98).1, (y43.1, y98).2)) e134
        refine ⟨_, _, rfl, (dget_T (O124.s _ _ h131) (O124.s _ _ h140) e136), _, (O124.at 0 rfl), (comp_len la113 hi109 hl97.len c103), ?_⟩
        exact ⟨F123, (), acc111 ++ [y133], wa112 ++ [w135], S116, O124.set 0 (.lst (wa112 ++ [w135])) rfl, RL.snoc hl117 r137, by rw [List.length_append]; exact Nat.succ_le_succ la113, hk⟩
      rintro H146 ⟨F147, st148, acc149, wa150, S151, O152, hl153, la154, hL155⟩
      rw [drop_end hl97.len] at hL155
      have hk := hLd102 _ _ hL155
      have f_tree := f_tree.mono S151
      have f_rule := f_rule.mono S151
      have f_rows := f_rows.mono S151
      have h3 := S151 _ _ h3
      have r6 := r6.mono S151
      have r7 := r7.mono S151
      have h11 := S151 _ _ h11
      have hl12 := hl12.mono S151
      have h31 := h31.mono S151
      have h41 := S151 _ _ h41
      have hl42 := hl42.mono S151
      have hl56 := hl56.mono S151
      have S53 := S53.trans S151
      have r69 := r69.mono S151
      have h74 := h74.mono S151
      have h78 := S151 _ _ h78
      have h86 := S151 _ _ h86
      have hl87 := hl87.mono S151
      have r92 := r92.mono S151
      have h96 := S151 _ _ h96
      have hl97 := hl97.mono S151
      obtain ⟨F157, O158, S159, h160⟩ := O152.frzE 0 rfl z145
      have f_tree := f_tree.mono S159
      have f_rule := f_rule.mono S159
      have f_rows := f_rows.mono S159
      have h3 := S159 _ _ h3
      have r6 := r6.mono S159
      have r7 := r7.mono S159
      have h11 := S159 _ _ h11
      have hl12 := hl12.mono S159
      have h31 := h31.mono S159
      have h41 := S159 _ _ h41
      have hl42 := hl42.mono S159
      have hl56 := hl56.mono S159
      have S53 := S53.trans S159
      have r69 := r69.mono S159
      have h74 := h74.mono S159
      have h78 := S159 _ _ h78
      have h86 := S159 _ _ h86
      have hl87 := hl87.mono S159
      have r92 := r92.mono S159
      have h96 := S159 _ _ h96
      have hl97 := hl97.mono S159
      have hl153 := hl153.mono S159
      have h161 := R.lst (a := (List Int)) h160 hl153
      refine ⟨_, _, _, _, _, _, _, _, rfl, O158.pre0, f_tree, f_rule, h161, wp_call hk (fun r162 er163 hk F164 H165 g166 v167 r168 => ?_) (fun n hn C H1 hC kp => hn C H1 hC (O158.kp0 kp))⟩
      have O169 := O158.call0 g166
      have S_ := g166.f
      have f_tree := f_tree.mono S_
      have f_rule := f_rule.mono S_
      have f_rows := f_rows.mono S_
      have h3 := S_ _ _ h3
      have r6 := r6.mono S_
      have r7 := r7.mono S_
      have h11 := S_ _ _ h11
      have hl12 := hl12.mono S_
      have h31 := h31.mono S_
      have h41 := S_ _ _ h41
      have hl42 := hl42.mono S_
      have hl56 := hl56.mono S_
      have S53 := S53.trans S_
      have r69 := r69.mono S_
      have h74 := h74.mono S_
      have h78 := S_ _ _ h78
      have h86 := S_ _ _ h86
      have hl87 := hl87.mono S_
      have r92 := r92.mono S_
      have h96 := S_ _ _ h96
      have hl97 := hl97.mono S_
      have h161 := h161.mono S_
      refine ⟨_, rfl, _, _, _, _, _, _, rfl, O169.pre0, f_rule, r168, wp_call hk (fun r170 er171 hk F172 H173 g174 => ?_) (fun n hn C H1 hC kp => hn C H1 hC (O169.kp0 kp))⟩
      have O175 := O169.call0 g174
      have S_ := g174.f
      have f_tree := f_tree.mono S_
      have f_rule := f_rule.mono S_
      have f_rows := f_rows.mono S_
      have h3 := S_ _ _ h3
      have r6 := r6.mono S_
      have r7 := r7.mono S_
      have h11 := S_ _ _ h11
      have hl12 := hl12.mono S_
      have h31 := h31.mono S_
      have h41 := S_ _ _ h41
      have hl42 := hl42.mono S_
      have hl56 := hl56.mono S_
      have S53 := S53.trans S_
      have r69 := r69.mono S_
      have h74 := h74.mono S_
      have h78 := S_ _ _ h78
      have h86 := S_ _ _ h86
      have hl87 := hl87.mono S_
      have r92 := r92.mono S_
      have h96 := S_ _ _ h96
      have hl97 := hl97.mono S_
      have h161 := h161.mono S_
      have r168 := r168.mono S_
      obtain ⟨c176, hk⟩ := wp_appL hk
      refine ⟨_, _, _, rfl, rfl, (O175.at 0 rfl), (by rw [hl56.len]; exact c176), ?_⟩
      have O178 := O175.set 0 (.lst (w55 ++ [V.int r170])) rfl
      have hl179 : RL (a := Int) F172 (w55 ++ [V.int r170]) (st54 ++ [r170]) := RL.snoc hl56 R.int
      exact ⟨F172, (st54 ++ [r170]), (w55 ++ [V.int r170]), some (V.int y43.1), some (V.int y43.2), rfl, S53, O178, hl179, hk⟩
    rintro sg180 H181 ⟨F189, st183, w185, t187, t188, rfl, S182, O190, hl186, hL184⟩
    rw [enumL_end hl42.len] at hL184
    have hk := hLd47 _ hL184
    have f_tree := f_tree.mono S182
    have f_rule := f_rule.mono S182
    have f_rows := f_rows.mono S182
    have h3 := S182 _ _ h3
    have r6 := r6.mono S182
    have r7 := r7.mono S182
    have h11 := S182 _ _ h11
    have hl12 := hl12.mono S182
    have h31 := h31.mono S182
    have h41 := S182 _ _ h41
    have hl42 := hl42.mono S182
    refine ⟨_, rfl, ?_⟩
    exact hk _ _  O190.g  _ _ z37 (O190.cf _ (List.mem_of_getElem? (i := 0) rfl)) (O190.at 0 rfl) hl186
abbrev s_all_rows : Stmt := top 36
theorem sc_all_rows : FnScope ["tree", "rule", "rows", "branch"] ["tree", "rule"] (defScope s_all_rows) := ⟨rfl, rfl, rfl, by decide +kernel, rfl, by decide +kernel, by decide +kernel⟩
def m_all_rows (x_tree : ((List Int) × (List (T3 Int Int Int)))) (x_rule : (T4 (List Sm) (List Sm) (List Sm) Sm)) : M ((List ((Int × Int) × (List Int)))) :=
m_need_rule x_rule >>= fun r1 =>
m_rows_known x_tree x_rule >>= fun r7 =>
m_every_branch x_tree >>= fun r15 =>
compS (fun (y39 : (Int × Int)) (st56 : Unit) =>
opt (dGet r7 y39) >>= fun y67 =>
.ok (some (y39, y67), ())) r15 () >>= fun q97 =>
.ok q97.1
def sp_all_rows (mg : Str → Option Value) : Sp := fun vs H Q E => ∃ (F : Hp) (v_tree : V) (x_tree : ((List Int) × (List (T3 Int Int Int)))) (v_rule : V) (x_rule : (T4 (List Sm) (List Sm) (List Sm) Sm)), vs = [v_tree, v_rule] ∧ Pre F [] H ∧ R (a := ((List Int) × (List (T3 Int Int Int)))) F v_tree x_tree ∧ R (a := (T4 (List Sm) (List Sm) (List Sm) Sm)) F v_rule x_rule ∧
  wp (m_all_rows x_tree x_rule) (fun r => ∀ (F' H' : Hp), Gr [] F H F' H' → ∀ v : V, R (a := (List ((Int × Int) × (List Int)))) F' v r → Q v H')
  (fun n => ∀ (C : Addr) (H' : Hp), mg (Str.ofString n) = some (.ref C) → Kp [] H H' → E (.ref C) none H')
set_option maxHeartbeats 2000000 in
theorem ok_all_rows (nb : Nb mg) (C_every_branch : Ca P w K mg base "every_branch" 2 ["tree"] (sp_every_branch mg)) (C_need_rule : Ca P w K mg base "need_rule" 63 ["rule"] (sp_need_rule mg)) (C_rows_known : Ca P w K mg base "rows_known" 16 ["tree", "rule"] (sp_rows_known mg)) (D : Df K mg "all_rows" "all_rows" s_all_rows ["tree", "rule"]) : Ca P w K mg base "all_rows" 64 ["tree", "rule"] (sp_all_rows mg) := by
  obtain ⟨fa_every_branch, fd_every_branch, G_every_branch, M_every_branch, K_every_branch, B_every_branch⟩ := C_every_branch.ex
  obtain ⟨fa_need_rule, fd_need_rule, G_need_rule, M_need_rule, K_need_rule, B_need_rule⟩ := C_need_rule.ex
  obtain ⟨fa_rows_known, fd_rows_known, G_rows_known, M_rows_known, K_rows_known, B_rows_known⟩ := C_rows_known.ex
  refine Ca.mk' D sc_all_rows (fun vs H Q E h => ?_) (fun q_ f_ cdv A outer s H vs Q E hr h => ?_)
  · obtain ⟨F, _, _, _, _, rfl, _⟩ := h
    rfl
  · obtain ⟨F, v_tree, x_tree, v_rule, x_rule, rfl, P0, f_tree, f_rule, hk⟩ := h
    have nd := sc_all_rows.nd
    have hu64 := hr.units
    have hu128 := hu128_of hr
    have O := P0.start
    refine ⟨_, (pss_cons (ps_expr (pe_call G_need_rule (hr.mono (by decide)) rfl M_need_rule K_need_rule B_need_rule .nil (passes_call (takes_of rfl rfl rfl rfl) fun _ _ _ _ h => h) (pa_cons (pv 1) pa_nil)))
  (pss_cons (ps_set (i := 2) nd rfl (Or.inr rfl) (pe_call G_rows_known (hr.mono (by decide)) rfl M_rows_known K_rows_known B_rows_known .nil (passes_call (takes_of rfl rfl rfl rfl) fun _ _ _ _ h => h) (pa_cons (pv 0) (pa_cons (pv 1) pa_nil))))
  (pss_one (ps_ret (pe_lc (own := [("branch", 3)]) (g := gName 3) (tt := _) rfl nd (piListK (K := K) rfl (pe_call G_every_branch (hr.mono (by decide)) rfl M_every_branch K_every_branch B_every_branch .nil (passes_call (takes_of rfl rfl rfl rfl) fun _ _ _ _ h => h) (pa_cons (pv 0) pa_nil))) (blkOk_by (own := [("branch", 3)]) (N := ["tree", "rule", "rows", "branch"]) (sc := defScope s_all_rows) (by decide +kernel)) (fun _ _ _ _ _ => (pg_name (i := 3) nd rfl (Or.inl rfl))) (fun _ _ _ _ _ => pts_nil) (fun _ _ _ _ _ => (pe_tup (pa_cons (pv 3) (pa_cons (pe_dget (u1_of hu64) (pv 2) (pv 3) (fun _ _ => rfl)) pa_nil))))))))), ?_⟩
    refine ⟨_, rfl, _, _, _, rfl, O.pre0, f_rule, wp_call hk (fun r1 er2 hk F3 H4 g5 => ?_) (fun n hn C H1 hC kp => hn C H1 hC (O.kp0 kp))⟩
    have O6 := O.call0 g5
    have S_ := g5.f
    have f_tree := f_tree.mono S_
    have f_rule := f_rule.mono S_
    refine ⟨_, rfl, _, rfl, _, _, _, _, _, rfl, O6.pre0, f_tree, f_rule, wp_call hk (fun r7 er8 hk F9 H10 g11 v12 r13 => ?_) (fun n hn C H1 hC kp => hn C H1 hC (O6.kp0 kp))⟩
    have O14 := O6.call0 g11
    have S_ := g11.f
    have f_tree := f_tree.mono S_
    have f_rule := f_rule.mono S_
    refine ⟨_, rfl, _, _, _, rfl, O14.pre0, f_tree, wp_call hk (fun r15 er16 hk F17 H18 g19 p20 w21 hn22 hf23 h24 hl25 => ?_) (fun n hn C H1 hC kp => hn C H1 hC (O14.kp0 kp))⟩
    have O26 := O14.call0 g19
    have S_ := g19.f
    have f_tree := f_tree.mono S_
    have f_rule := f_rule.mono S_
    have r13 := r13.mono S_
    have O27 := O14.got O26 rfl hn22 hf23 h24
    have z28 := O14.was hn22
    obtain ⟨F29, O30, S31, h32⟩ := O27.frzE 0 rfl z28
    have f_tree := f_tree.mono S31
    have f_rule := f_rule.mono S31
    have r13 := r13.mono S31
    have hl25 := hl25.mono S31
    have h33 := R.lst (a := (Int × Int)) h32 hl25
    obtain ⟨p34, w35, e36, h37, hl38⟩ := R.lst_ h33
    cases e36
    obtain ⟨c44, L40, hL41, hLs42, hLd43⟩ := compS_L hk
    refine ⟨_, rfl, ⟨_, (SqLF O30.s h37)⟩, fun p45 hp46 => ?_⟩
    have z86 := O30.was hp46
    refine lc_list (K := K) (xs := w35) (fun i H => ∃ (F_ : Hp) (st : Unit) (acc : List ((Int × Int) × (List Int))) (wa : List V), Same F29 F_ ∧ Ow _ F_ [(p45, .lst wa)] H ∧ RL F_ wa acc ∧ wa.length ≤ i ∧ L40 (List.drop i r15) acc st) ⟨F29, (), [], [], Same.refl _, O30.new hp46, RL.nil, Nat.zero_le _, hL41⟩ (fun i_ H_ _ hp_ => ?_) ?_ ?_
    · obtain ⟨_, _, _, _, hS_, hO_, _⟩ := hp_
      exact SqLF hO_.s (hS_ _ _ h37)
    · rintro i47 x48 H49 hi50 ⟨F55, st56, acc52, wa53, S57, O59, hl58, la54, hL41⟩
      have f_tree := f_tree.mono S57
      have f_rule := f_rule.mono S57
      have r13 := r13.mono S57
      have h33 := h33.mono S57
      have h37 := S57 _ _ h37
      have hl38 := hl38.mono S57
      obtain ⟨y39, e60, r61⟩ := RL.got hl38 hi50
      rw [drop_at e60] at hL41
      have hk := hLs42 _ _ _ _ hL41
      refine ⟨rfl, ?_⟩
      obtain ⟨p62, w63, e64, h65, hl66⟩ := r13
      cases e64
      have h65 : F55 _ = some (.dT w63) := h65
      have r13 := RDv.mk (κ := (Int × Int)) (β := (List Int)) h65 hl66
      obtain ⟨p72, v75, v76, e73, h74, r77, r78⟩ := R.t2_ r61
      cases e73
      obtain rfl := R.int_ r77
      obtain rfl := R.int_ r78
      obtain ⟨y67, e68, hk⟩ := wp_opt hk
      obtain ⟨w69, e70, r71⟩ := RD.some hl66 (k := (y39.1, y39.2)) e68
      refine ⟨_, rfl, _, rfl, _, rfl, _, _, rfl, (dget_T (O59.s _ _ h65) (O59.s _ _ h74) e70), (by show 2 ≤ sizeLine; decide), fun p79 hp80 => ?_⟩
      obtain ⟨F81, O82, S83, h84⟩ := O59.putE hp80 (.tup [V.ref p72, w69])
      have f_tree := f_tree.mono S83
      have f_rule := f_rule.mono S83
      have r13 := r13.mono S83
      have h33 := h33.mono S83
      have h37 := S83 _ _ h37
      have hl38 := hl38.mono S83
      have S57 := S57.trans S83
      have hl58 := hl58.mono S83
      have r61 := r61.mono S83
      have h65 := S83 _ _ h65
      have hl66 := hl66.mono S83
      have h74 := S83 _ _ h74
      have r71 := r71.mono S83
      have h85 : R (a := ((Int × Int) × (List Int))) F81 (.ref p79) (y39, y67) := R.t2 h84 r61 r71
      refine ⟨_, (O82.at 0 rfl), (comp_len la54 hi50 hl38.len c44), ?_⟩
      exact ⟨F81, (), acc52 ++ [(y39, y67)], wa53 ++ [V.ref p79], S57, O82.set 0 (.lst (wa53 ++ [V.ref p79])) rfl, RL.snoc hl58 h85, by rw [List.length_append]; exact Nat.succ_le_succ la54, hk⟩
    rintro H87 ⟨F88, st89, acc90, wa91, S92, O93, hl94, la95, hL96⟩
    rw [drop_end hl38.len] at hL96
    have hk := hLd43 _ _ hL96
    have f_tree := f_tree.mono S92
    have f_rule := f_rule.mono S92
    have r13 := r13.mono S92
    have h33 := h33.mono S92
    have h37 := S92 _ _ h37
    have hl38 := hl38.mono S92
    obtain ⟨F98, O99, S100, h101⟩ := O93.frzE 0 rfl z86
    have f_tree := f_tree.mono S100
    have f_rule := f_rule.mono S100
    have r13 := r13.mono S100
    have h33 := h33.mono S100
    have h37 := S100 _ _ h37
    have hl38 := hl38.mono S100
    have hl94 := hl94.mono S100
    have h102 := R.lst (a := ((Int × Int) × (List Int))) h101 hl94
    exact hk _ _  O99.g  _ h102
abbrev s_all_seats : Stmt := top 37
theorem sc_all_seats : FnScope ["tree", "rule"] ["tree", "rule"] (defScope s_all_seats) := ⟨rfl, rfl, rfl, by decide +kernel, rfl, by decide +kernel, by decide +kernel⟩
def m_all_seats (x_tree : ((List Int) × (List (T3 Int Int Int)))) (x_rule : (T4 (List Sm) (List Sm) (List Sm) Sm)) : M ((List Int)) :=
m_need_rule x_rule >>= fun r1 =>
m_rows_known x_tree x_rule >>= fun r8 =>
m_seats_by x_tree x_rule r8 >>= fun r16 =>
.ok r16
def sp_all_seats (mg : Str → Option Value) : Sp := fun vs H Q E => ∃ (F : Hp) (v_tree : V) (x_tree : ((List Int) × (List (T3 Int Int Int)))) (v_rule : V) (x_rule : (T4 (List Sm) (List Sm) (List Sm) Sm)), vs = [v_tree, v_rule] ∧ Pre F [] H ∧ R (a := ((List Int) × (List (T3 Int Int Int)))) F v_tree x_tree ∧ R (a := (T4 (List Sm) (List Sm) (List Sm) Sm)) F v_rule x_rule ∧
  wp (m_all_seats x_tree x_rule) (fun r => ∀ (F' H' : Hp), Gr [] F H F' H' → ∀ (p : Addr) (w : (List V)), H p = none → F' p = none → H' p = some (.lst w) → RL (a := Int) F' w r → Q (.ref p) H')
  (fun n => ∀ (C : Addr) (H' : Hp), mg (Str.ofString n) = some (.ref C) → Kp [] H H' → E (.ref C) none H')
set_option maxHeartbeats 2000000 in
theorem ok_all_seats (nb : Nb mg) (C_need_rule : Ca P w K mg base "need_rule" 63 ["rule"] (sp_need_rule mg)) (C_rows_known : Ca P w K mg base "rows_known" 16 ["tree", "rule"] (sp_rows_known mg)) (C_seats_by : Ca P w K mg base "seats_by" 16 ["tree", "rule", "rows"] (sp_seats_by mg)) (D : Df K mg "all_seats" "all_seats" s_all_seats ["tree", "rule"]) : Ca P w K mg base "all_seats" 64 ["tree", "rule"] (sp_all_seats mg) := by
  obtain ⟨fa_need_rule, fd_need_rule, G_need_rule, M_need_rule, K_need_rule, B_need_rule⟩ := C_need_rule.ex
  obtain ⟨fa_rows_known, fd_rows_known, G_rows_known, M_rows_known, K_rows_known, B_rows_known⟩ := C_rows_known.ex
  obtain ⟨fa_seats_by, fd_seats_by, G_seats_by, M_seats_by, K_seats_by, B_seats_by⟩ := C_seats_by.ex
  refine Ca.mk' D sc_all_seats (fun vs H Q E h => ?_) (fun q_ f_ cdv A outer s H vs Q E hr h => ?_)
  · obtain ⟨F, _, _, _, _, rfl, _⟩ := h
    rfl
  · obtain ⟨F, v_tree, x_tree, v_rule, x_rule, rfl, P0, f_tree, f_rule, hk⟩ := h
    have nd := sc_all_seats.nd
    have hu64 := hr.units
    have hu128 := hu128_of hr
    have O := P0.start
    refine ⟨_, (pss_cons (ps_expr (pe_call G_need_rule (hr.mono (by decide)) rfl M_need_rule K_need_rule B_need_rule .nil (passes_call (takes_of rfl rfl rfl rfl) fun _ _ _ _ h => h) (pa_cons (pv 1) pa_nil)))
  (pss_one (ps_ret (pe_call G_seats_by (hr.mono (by decide)) rfl M_seats_by K_seats_by B_seats_by .nil (passes_call (takes_of rfl rfl rfl rfl) fun _ _ _ _ h => h) (pa_cons (pv 0) (pa_cons (pv 1) (pa_cons (pe_call G_rows_known (hr.mono (by decide)) rfl M_rows_known K_rows_known B_rows_known .nil (passes_call (takes_of rfl rfl rfl rfl) fun _ _ _ _ h => h) (pa_cons (pv 0) (pa_cons (pv 1) pa_nil))) pa_nil))))))), ?_⟩
    refine ⟨_, rfl, _, _, _, rfl, O.pre0, f_rule, wp_call hk (fun r1 er2 hk F3 H4 g5 => ?_) (fun n hn C H1 hC kp => hn C H1 hC (O.kp0 kp))⟩
    have O6 := O.call0 g5
    have S_ := g5.f
    have f_tree := f_tree.mono S_
    have f_rule := f_rule.mono S_
    refine ⟨_, rfl, _, rfl, _, rfl, _, rfl, _, _, _, _, _, rfl, O6.pre0, f_tree, f_rule, wp_call hk (fun r8 er9 hk F10 H11 g12 v13 r14 => ?_) (fun n hn C H1 hC kp => hn C H1 hC (O6.kp0 kp))⟩
    have O15 := O6.call0 g12
    have S_ := g12.f
    have f_tree := f_tree.mono S_
    have f_rule := f_rule.mono S_
    refine ⟨_, _, _, _, _, _, _, rfl, O15.pre0, f_tree, f_rule, r14, wp_call hk (fun r16 er17 hk F18 H19 g20 p21 w22 hn23 hf24 h25 hl26 => ?_) (fun n hn C H1 hC kp => hn C H1 hC (O15.kp0 kp))⟩
    have O27 := O15.call0 g20
    have S_ := g20.f
    have f_tree := f_tree.mono S_
    have f_rule := f_rule.mono S_
    have r14 := r14.mono S_
    have O28 := O15.got O27 rfl hn23 hf24 h25
    have z29 := O15.was hn23
    exact hk _ _  O28.g  _ _ z29 (O28.cf _ (List.mem_of_getElem? (i := 0) rfl)) (O28.at 0 rfl) hl26
abbrev s_best_seats : Stmt := top 38
theorem sc_best_seats : FnScope ["tree", "rule", "worths", "place", "worth"] ["tree", "rule"] (defScope s_best_seats) := ⟨rfl, rfl, rfl, by decide +kernel, rfl, by decide +kernel, by decide +kernel⟩
def m_best_seats (x_tree : ((List Int) × (List (T3 Int Int Int)))) (x_rule : (T4 (List Sm) (List Sm) (List Sm) Sm)) : M ((List Int)) :=
m_all_seats x_tree x_rule >>= fun r1 =>
compS (fun (y26 : (Int × Int)) (st43 : Unit) =>
opt (mxI r1) >>= fun y74 =>
if y26.2 = y74 then (
.ok (some y26.1, ()))
else (
.ok (none, ()))) (enumL r1) () >>= fun q92 =>
.ok q92.1
def sp_best_seats (mg : Str → Option Value) : Sp := fun vs H Q E => ∃ (F : Hp) (v_tree : V) (x_tree : ((List Int) × (List (T3 Int Int Int)))) (v_rule : V) (x_rule : (T4 (List Sm) (List Sm) (List Sm) Sm)), vs = [v_tree, v_rule] ∧ Pre F [] H ∧ R (a := ((List Int) × (List (T3 Int Int Int)))) F v_tree x_tree ∧ R (a := (T4 (List Sm) (List Sm) (List Sm) Sm)) F v_rule x_rule ∧
  wp (m_best_seats x_tree x_rule) (fun r => ∀ (F' H' : Hp), Gr [] F H F' H' → ∀ (p : Addr) (w : (List V)), H p = none → F' p = none → H' p = some (.lst w) → RL (a := Int) F' w r → Q (.ref p) H')
  (fun n => ∀ (C : Addr) (H' : Hp), mg (Str.ofString n) = some (.ref C) → Kp [] H H' → E (.ref C) none H')
set_option maxHeartbeats 2000000 in
theorem ok_best_seats (nb : Nb mg) (C_all_seats : Ca P w K mg base "all_seats" 64 ["tree", "rule"] (sp_all_seats mg)) (D : Df K mg "best_seats" "best_seats" s_best_seats ["tree", "rule"]) : Ca P w K mg base "best_seats" 65 ["tree", "rule"] (sp_best_seats mg) := by
  obtain ⟨fa_all_seats, fd_all_seats, G_all_seats, M_all_seats, K_all_seats, B_all_seats⟩ := C_all_seats.ex
  refine Ca.mk' D sc_best_seats (fun vs H Q E h => ?_) (fun q_ f_ cdv A outer s H vs Q E hr h => ?_)
  · obtain ⟨F, _, _, _, _, rfl, _⟩ := h
    rfl
  · obtain ⟨F, v_tree, x_tree, v_rule, x_rule, rfl, P0, f_tree, f_rule, hk⟩ := h
    have nd := sc_best_seats.nd
    have hu64 := hr.units
    have hu128 := hu128_of hr
    have O := P0.start
    refine ⟨_, (pss_cons (ps_set (i := 2) nd rfl (Or.inr rfl) (pe_call G_all_seats (hr.mono (by decide)) rfl M_all_seats K_all_seats B_all_seats .nil (passes_call (takes_of rfl rfl rfl rfl) fun _ _ _ _ h => h) (pa_cons (pv 0) (pa_cons (pv 1) pa_nil))))
  (pss_one (ps_ret (pe_lc (own := [("place", 3), ("worth", 4)]) (g := gTup K 2 (gCons (gName 3) (gCons (gName 4) (gNil)))) (tt := _) rfl nd (piEnumK (K := K) rfl rfl nb.b_enumerate (pa_cons (pv 2) pa_nil)) (blkOk_by (own := [("place", 3), ("worth", 4)]) (N := ["tree", "rule", "worths", "place", "worth"]) (sc := defScope s_best_seats) (by decide +kernel)) (fun _ _ _ _ _ => (pg_tup rfl (pgs_cons (pg_name (i := 3) nd rfl (Or.inl rfl)) (pgs_cons (pg_name (i := 4) nd rfl (Or.inl rfl)) pgs_nil)))) (fun _ _ _ _ _ => (pts_one (pt_cmpR (op_eqT Int hu64) (pv 4) (pe_callB (cr_maxK (K := K) rfl rfl) (by rfl) nb.b_max (by decide +kernel) (pa_cons (pv 2) pa_nil)) (nomark _)))) (fun _ _ _ _ _ => (pv 3)))))), ?_⟩
    refine ⟨_, rfl, _, rfl, _, _, _, _, _, rfl, O.pre0, f_tree, f_rule, wp_call hk (fun r1 er2 hk F3 H4 g5 p6 w7 hn8 hf9 h10 hl11 => ?_) (fun n hn C H1 hC kp => hn C H1 hC (O.kp0 kp))⟩
    have O12 := O.call0 g5
    have S_ := g5.f
    have f_tree := f_tree.mono S_
    have f_rule := f_rule.mono S_
    have O13 := O.got O12 rfl hn8 hf9 h10
    have z14 := O.was hn8
    obtain ⟨F15, O16, S17, h18⟩ := O13.frzE 0 rfl z14
    have f_tree := f_tree.mono S17
    have f_rule := f_rule.mono S17
    have hl11 := hl11.mono S17
    have h19 := R.lst (a := Int) h18 hl11
    obtain ⟨p21, w22, e23, h24, hl25⟩ := R.lst_ h19
    cases e23
    obtain ⟨c31, L27, hL28, hLs29, hLd30⟩ := compS_L hk
    refine ⟨_, rfl, _, _, rfl, (SqLF O16.s h24), fun p32 hp33 => ?_⟩
    have z81 := O16.was hp33
    refine lc_it (walk_enum (K := K) (xs := w22)) (fun i H => ∃ (F_ : Hp) (st : Unit) (acc : List Int) (wa : List V), Same F15 F_ ∧ Ow _ F_ [(p32, .lst wa)] H ∧ RL F_ wa acc ∧ wa.length ≤ i ∧ L27 (List.drop i (enumL r1)) acc st) ⟨F15, (), [], [], Same.refl _, O16.new hp33, RL.nil, Nat.zero_le _, hL28⟩ (fun i_ H_ _ hp_ => ?_) ?_ ?_
    · obtain ⟨_, _, _, _, hS_, hO_, _⟩ := hp_
      exact SqLF hO_.s (hS_ _ _ h24)
    · rintro i34 _ H36 _ hi37 ⟨F42, st43, acc39, wa40, S44, O46, hl45, la41, hL28⟩ ⟨T47, x48, y49, rfl, hT50, rfl, hx51, hy52⟩
      have f_tree := f_tree.mono S44
      have f_rule := f_rule.mono S44
      have h19 := h19.mono S44
      have h24 := S44 _ _ h24
      have hl25 := hl25.mono S44
      cases hx51
      obtain ⟨y53, e54, r55⟩ := RL.got hl25 hy52
      rw [enumL_get e54] at hL28
      have hk := hLs29 _ _ _ _ hL28
      obtain ⟨F56, O57, S58, h59⟩ := O46.putE hT50 (.tup [V.int (i34 : Int), y49])
      have f_tree := f_tree.mono S58
      have f_rule := f_rule.mono S58
      have h19 := h19.mono S58
      have h24 := S58 _ _ h24
      have hl25 := hl25.mono S58
      have S44 := S44.trans S58
      have hl45 := hl45.mono S58
      have r55 := r55.mono S58
      obtain ⟨y26, he61⟩ : ∃ z_, z_ = ((i34 : Int), y53) := ⟨_, rfl⟩
      try rw [← he61] at hk
      have h60 : R (a := (Int × Int)) F56 (.ref T47) y26 := by rw [he61]; exact R.t2 h59 R.int r55
      obtain ⟨p62, v65, v66, e63, h64, r67, r68⟩ := R.t2_ h60
      cases e63
      obtain rfl := R.int_ r67
      obtain rfl := R.int_ r68
      obtain ⟨p69, w70, e71, h72, hl73⟩ := R.lst_ h19
      cases e71
      obtain ⟨y74, e75, hk⟩ := wp_opt hk
      refine ⟨_, _, rfl, (SqTF O57.s h64), rfl, _, _, rfl, _, _, rfl, rfl, rfl, _, rfl, _, rfl, _, r1, rfl, (by rw [← RL.ints hl73]; exact (SqLF O57.s h72)), (List.length_pos_of_mem (mxI_is e75).1), fun m76 h77 h78 => ?_⟩
      have e79 := mxI_uq e75 h77 h78
      subst e79
      refine ⟨_, _, R.int, R.int, _, rfl, ?_⟩
      refine iteD (fun q80 => ?_) (fun q80 => ?_)
      · have hk := wp_if hk q80
        refine ⟨_, rfl, _, (O57.at 0 rfl), (comp_lenE la41 hi37 hl25.len c31), ?_⟩
        exact ⟨F56, (), acc39 ++ [y26.1], wa40 ++ [V.int y26.1], S44, O57.set 0 (.lst (wa40 ++ [V.int y26.1])) rfl, RL.snoc hl45 R.int, by rw [List.length_append]; exact Nat.succ_le_succ la41, hk⟩
      · have hk := wp_el hk q80
        exact ⟨F56, (), acc39, wa40, S44, O57, hl45, Nat.le_succ_of_le la41, hk⟩
    rintro H82 ⟨F83, st84, acc85, wa86, S87, O88, hl89, la90, hL91⟩
    rw [enumL_end hl25.len] at hL91
    have hk := hLd30 _ _ hL91
    have f_tree := f_tree.mono S87
    have f_rule := f_rule.mono S87
    have h19 := h19.mono S87
    have h24 := S87 _ _ h24
    have hl25 := hl25.mono S87
    exact hk _ _  O88.g  _ _ z81 (O88.cf _ (List.mem_of_getElem? (i := 0) rfl)) (O88.at 0 rfl) hl89
abbrev s_least_seats : Stmt := top 39
theorem sc_least_seats : FnScope ["tree", "rule", "worths", "place", "worth"] ["tree", "rule"] (defScope s_least_seats) := ⟨rfl, rfl, rfl, by decide +kernel, rfl, by decide +kernel, by decide +kernel⟩
def m_least_seats (x_tree : ((List Int) × (List (T3 Int Int Int)))) (x_rule : (T4 (List Sm) (List Sm) (List Sm) Sm)) : M ((List Int)) :=
m_all_seats x_tree x_rule >>= fun r1 =>
compS (fun (y26 : (Int × Int)) (st43 : Unit) =>
opt (mnI r1) >>= fun y74 =>
if y26.2 = y74 then (
.ok (some y26.1, ()))
else (
.ok (none, ()))) (enumL r1) () >>= fun q92 =>
.ok q92.1
def sp_least_seats (mg : Str → Option Value) : Sp := fun vs H Q E => ∃ (F : Hp) (v_tree : V) (x_tree : ((List Int) × (List (T3 Int Int Int)))) (v_rule : V) (x_rule : (T4 (List Sm) (List Sm) (List Sm) Sm)), vs = [v_tree, v_rule] ∧ Pre F [] H ∧ R (a := ((List Int) × (List (T3 Int Int Int)))) F v_tree x_tree ∧ R (a := (T4 (List Sm) (List Sm) (List Sm) Sm)) F v_rule x_rule ∧
  wp (m_least_seats x_tree x_rule) (fun r => ∀ (F' H' : Hp), Gr [] F H F' H' → ∀ (p : Addr) (w : (List V)), H p = none → F' p = none → H' p = some (.lst w) → RL (a := Int) F' w r → Q (.ref p) H')
  (fun n => ∀ (C : Addr) (H' : Hp), mg (Str.ofString n) = some (.ref C) → Kp [] H H' → E (.ref C) none H')
set_option maxHeartbeats 2000000 in
theorem ok_least_seats (nb : Nb mg) (C_all_seats : Ca P w K mg base "all_seats" 64 ["tree", "rule"] (sp_all_seats mg)) (D : Df K mg "least_seats" "least_seats" s_least_seats ["tree", "rule"]) : Ca P w K mg base "least_seats" 65 ["tree", "rule"] (sp_least_seats mg) := by
  obtain ⟨fa_all_seats, fd_all_seats, G_all_seats, M_all_seats, K_all_seats, B_all_seats⟩ := C_all_seats.ex
  refine Ca.mk' D sc_least_seats (fun vs H Q E h => ?_) (fun q_ f_ cdv A outer s H vs Q E hr h => ?_)
  · obtain ⟨F, _, _, _, _, rfl, _⟩ := h
    rfl
  · obtain ⟨F, v_tree, x_tree, v_rule, x_rule, rfl, P0, f_tree, f_rule, hk⟩ := h
    have nd := sc_least_seats.nd
    have hu64 := hr.units
    have hu128 := hu128_of hr
    have O := P0.start
    refine ⟨_, (pss_cons (ps_set (i := 2) nd rfl (Or.inr rfl) (pe_call G_all_seats (hr.mono (by decide)) rfl M_all_seats K_all_seats B_all_seats .nil (passes_call (takes_of rfl rfl rfl rfl) fun _ _ _ _ h => h) (pa_cons (pv 0) (pa_cons (pv 1) pa_nil))))
  (pss_one (ps_ret (pe_lc (own := [("place", 3), ("worth", 4)]) (g := gTup K 2 (gCons (gName 3) (gCons (gName 4) (gNil)))) (tt := _) rfl nd (piEnumK (K := K) rfl rfl nb.b_enumerate (pa_cons (pv 2) pa_nil)) (blkOk_by (own := [("place", 3), ("worth", 4)]) (N := ["tree", "rule", "worths", "place", "worth"]) (sc := defScope s_least_seats) (by decide +kernel)) (fun _ _ _ _ _ => (pg_tup rfl (pgs_cons (pg_name (i := 3) nd rfl (Or.inl rfl)) (pgs_cons (pg_name (i := 4) nd rfl (Or.inl rfl)) pgs_nil)))) (fun _ _ _ _ _ => (pts_one (pt_cmpR (op_eqT Int hu64) (pv 4) (pe_callB (cr_minK (K := K) rfl rfl) (by rfl) nb.b_min (by decide +kernel) (pa_cons (pv 2) pa_nil)) (nomark _)))) (fun _ _ _ _ _ => (pv 3)))))), ?_⟩
    refine ⟨_, rfl, _, rfl, _, _, _, _, _, rfl, O.pre0, f_tree, f_rule, wp_call hk (fun r1 er2 hk F3 H4 g5 p6 w7 hn8 hf9 h10 hl11 => ?_) (fun n hn C H1 hC kp => hn C H1 hC (O.kp0 kp))⟩
    have O12 := O.call0 g5
    have S_ := g5.f
    have f_tree := f_tree.mono S_
    have f_rule := f_rule.mono S_
    have O13 := O.got O12 rfl hn8 hf9 h10
    have z14 := O.was hn8
    obtain ⟨F15, O16, S17, h18⟩ := O13.frzE 0 rfl z14
    have f_tree := f_tree.mono S17
    have f_rule := f_rule.mono S17
    have hl11 := hl11.mono S17
    have h19 := R.lst (a := Int) h18 hl11
    obtain ⟨p21, w22, e23, h24, hl25⟩ := R.lst_ h19
    cases e23
    obtain ⟨c31, L27, hL28, hLs29, hLd30⟩ := compS_L hk
    refine ⟨_, rfl, _, _, rfl, (SqLF O16.s h24), fun p32 hp33 => ?_⟩
    have z81 := O16.was hp33
    refine lc_it (walk_enum (K := K) (xs := w22)) (fun i H => ∃ (F_ : Hp) (st : Unit) (acc : List Int) (wa : List V), Same F15 F_ ∧ Ow _ F_ [(p32, .lst wa)] H ∧ RL F_ wa acc ∧ wa.length ≤ i ∧ L27 (List.drop i (enumL r1)) acc st) ⟨F15, (), [], [], Same.refl _, O16.new hp33, RL.nil, Nat.zero_le _, hL28⟩ (fun i_ H_ _ hp_ => ?_) ?_ ?_
    · obtain ⟨_, _, _, _, hS_, hO_, _⟩ := hp_
      exact SqLF hO_.s (hS_ _ _ h24)
    · rintro i34 _ H36 _ hi37 ⟨F42, st43, acc39, wa40, S44, O46, hl45, la41, hL28⟩ ⟨T47, x48, y49, rfl, hT50, rfl, hx51, hy52⟩
      have f_tree := f_tree.mono S44
      have f_rule := f_rule.mono S44
      have h19 := h19.mono S44
      have h24 := S44 _ _ h24
      have hl25 := hl25.mono S44
      cases hx51
      obtain ⟨y53, e54, r55⟩ := RL.got hl25 hy52
      rw [enumL_get e54] at hL28
      have hk := hLs29 _ _ _ _ hL28
      obtain ⟨F56, O57, S58, h59⟩ := O46.putE hT50 (.tup [V.int (i34 : Int), y49])
      have f_tree := f_tree.mono S58
      have f_rule := f_rule.mono S58
      have h19 := h19.mono S58
      have h24 := S58 _ _ h24
      have hl25 := hl25.mono S58
      have S44 := S44.trans S58
      have hl45 := hl45.mono S58
      have r55 := r55.mono S58
      obtain ⟨y26, he61⟩ : ∃ z_, z_ = ((i34 : Int), y53) := ⟨_, rfl⟩
      try rw [← he61] at hk
      have h60 : R (a := (Int × Int)) F56 (.ref T47) y26 := by rw [he61]; exact R.t2 h59 R.int r55
      obtain ⟨p62, v65, v66, e63, h64, r67, r68⟩ := R.t2_ h60
      cases e63
      obtain rfl := R.int_ r67
      obtain rfl := R.int_ r68
      obtain ⟨p69, w70, e71, h72, hl73⟩ := R.lst_ h19
      cases e71
      obtain ⟨y74, e75, hk⟩ := wp_opt hk
      refine ⟨_, _, rfl, (SqTF O57.s h64), rfl, _, _, rfl, _, _, rfl, rfl, rfl, _, rfl, _, rfl, _, r1, rfl, (by rw [← RL.ints hl73]; exact (SqLF O57.s h72)), (List.length_pos_of_mem (mnI_is e75).1), fun m76 h77 h78 => ?_⟩
      have e79 := mnI_uq e75 h77 h78
      subst e79
      refine ⟨_, _, R.int, R.int, _, rfl, ?_⟩
      refine iteD (fun q80 => ?_) (fun q80 => ?_)
      · have hk := wp_if hk q80
        refine ⟨_, rfl, _, (O57.at 0 rfl), (comp_lenE la41 hi37 hl25.len c31), ?_⟩
        exact ⟨F56, (), acc39 ++ [y26.1], wa40 ++ [V.int y26.1], S44, O57.set 0 (.lst (wa40 ++ [V.int y26.1])) rfl, RL.snoc hl45 R.int, by rw [List.length_append]; exact Nat.succ_le_succ la41, hk⟩
      · have hk := wp_el hk q80
        exact ⟨F56, (), acc39, wa40, S44, O57, hl45, Nat.le_succ_of_le la41, hk⟩
    rintro H82 ⟨F83, st84, acc85, wa86, S87, O88, hl89, la90, hL91⟩
    rw [enumL_end hl25.len] at hL91
    have hk := hLd30 _ _ hL91
    have f_tree := f_tree.mono S87
    have f_rule := f_rule.mono S87
    have h19 := h19.mono S87
    have h24 := S87 _ _ h24
    have hl25 := hl25.mono S87
    exact hk _ _  O88.g  _ _ z81 (O88.cf _ (List.mem_of_getElem? (i := 0) rfl)) (O88.at 0 rfl) hl89
abbrev s_law_stir : Stmt := top 41
theorem sc_law_stir : FnScope ["cell", "k", "number"] ["cell", "k"] (defScope s_law_stir) := ⟨rfl, rfl, rfl, by decide +kernel, rfl, by decide +kernel, by decide +kernel⟩
def m_law_stir (x_cell : Int) (x_k : Int) : M (Int) :=
chk (0 < ((10 : Int) ^ Int.toNat (40 : Int))) >>= fun _ =>
chk (CMulW (x_cell % ((10 : Int) ^ Int.toNat (40 : Int))) (48271 : Int)) >>= fun _ =>
chk (CMulW ((3 : Int) ^ Int.toNat (60 : Int)) (x_k + (1 : Int))) >>= fun _ =>
chk (CMulW (((3 : Int) ^ Int.toNat (60 : Int)) * (x_k + (1 : Int))) (x_k + (1 : Int))) >>= fun _ =>
ret ((((x_cell % ((10 : Int) ^ Int.toNat (40 : Int))) * (48271 : Int)) + ((((3 : Int) ^ Int.toNat (60 : Int)) * (x_k + (1 : Int))) * (x_k + (1 : Int)))) + x_k) >>= fun n5 =>
chk (CMulW n5 n5) >>= fun _ =>
chk (CMulW (69621 : Int) n5) >>= fun _ =>
ret ((n5 * n5) + ((69621 : Int) * n5)) >>= fun n9 =>
chk (CMulW n9 n9) >>= fun _ =>
chk (0 < (((10 : Int) ^ Int.toNat (61 : Int)) + (7 : Int))) >>= fun _ =>
chk (CDivW ((n9 * n9) % (((10 : Int) ^ Int.toNat (61 : Int)) + (7 : Int))) (8 : Int)) >>= fun _ =>
.ok (((n9 * n9) % (((10 : Int) ^ Int.toNat (61 : Int)) + (7 : Int))) / (8 : Int))
def sp_law_stir (mg : Str → Option Value) : Sp := fun vs H Q E => ∃ (F : Hp) (x_cell : Int) (x_k : Int), vs = [V.int x_cell, V.int x_k] ∧ Pre F [] H ∧
  wp (m_law_stir x_cell x_k) (fun r => ∀ (F' H' : Hp), Gr [] F H F' H' → Q (V.int r) H')
  (fun n => ∀ (C : Addr) (H' : Hp), mg (Str.ofString n) = some (.ref C) → Kp [] H H' → E (.ref C) none H')
set_option maxHeartbeats 2000000 in
theorem ok_law_stir (nb : Nb mg) (D : Df K mg "_law_stir" "_law_stir" s_law_stir ["cell", "k"]) : Ca P w K mg base "_law_stir" 1 ["cell", "k"] (sp_law_stir mg) := by
  refine Ca.mk' D sc_law_stir (fun vs H Q E h => ?_) (fun q_ f_ cdv A outer s H vs Q E hr h => ?_)
  · obtain ⟨F, _, _, rfl, _⟩ := h
    rfl
  · obtain ⟨F, x_cell, x_k, rfl, P0, hk⟩ := h
    have nd := sc_law_stir.nd
    have hu64 := hr.units
    have hu128 := hu128_of hr
    have O := P0.start
    refine ⟨_, (pss_cons (ps_set (i := 2) nd rfl (Or.inl rfl) (pe_op op_add (pe_op op_add (pe_op op_mulW (pe_op op_mod (pv 0) (pe_op op_pow pe_int pe_int)) pe_int) (pe_op op_mulW (pe_op op_mulW (pe_op op_pow pe_int pe_int) (pe_op op_add (pv 1) pe_int)) (pe_op op_add (pv 1) pe_int))) (pv 1)))
  (pss_cons (ps_set (i := 2) nd rfl (Or.inl rfl) (pe_op op_add (pe_op op_mulW (pv 2) (pv 2)) (pe_op op_mulW pe_int (pv 2))))
  (pss_one (ps_ret (pe_op op_fdivW (pe_op op_mod (pe_op op_mulW (pv 2) (pv 2)) (pe_op op_add (pe_op op_pow pe_int pe_int) pe_int)) pe_int))))), ?_⟩
    obtain ⟨c1, hk⟩ := wp_chk hk
    obtain ⟨c2, hk⟩ := wp_chk hk
    obtain ⟨c3, hk⟩ := wp_chk hk
    obtain ⟨c4, hk⟩ := wp_chk hk
    obtain ⟨n5, hn6, hk⟩ := wp_ret hk
    subst hn6
    obtain ⟨c7, hk⟩ := wp_chk hk
    obtain ⟨c8, hk⟩ := wp_chk hk
    obtain ⟨n9, hn10, hk⟩ := wp_ret hk
    subst hn10
    obtain ⟨c11, hk⟩ := wp_chk hk
    obtain ⟨c12, hk⟩ := wp_chk hk
    obtain ⟨c13, hk⟩ := wp_chk hk
    refine ⟨_, rfl, _, _, rfl, rfl, (by decide), _, _, rfl, rfl, c1, _, _, rfl, rfl, c2, _, _, rfl, rfl, (by decide), _, rfl, _, _, rfl, rfl, _, _, rfl, rfl, c3, _, rfl, _, _, rfl, rfl, _, _, rfl, rfl, c4, _, _, rfl, rfl, _, rfl, _, _, rfl, rfl, _, rfl, _, rfl, _, _, rfl, rfl, c7, _, rfl, _, _, rfl, rfl, c8, _, _, rfl, rfl, _, rfl, _, rfl, _, _, rfl, rfl, c11, _, _, rfl, rfl, (by decide), _, _, rfl, rfl, _, _, rfl, rfl, c12, _, _, rfl, rfl, c13, ?_⟩
    exact hk _ _  O.g 
abbrev s_law_deck : Stmt := top 42
theorem sc_law_deck : FnScope ["cell", "great"] ["cell"] (defScope s_law_deck) := ⟨rfl, rfl, rfl, by decide +kernel, rfl, by decide +kernel, by decide +kernel⟩
def m_law_deck (x_cell : Int) : M ((List Int)) :=
if ((10 : Int) ^ Int.toNat (18 : Int)) ≤ x_cell then (
chk (0 < (2147483629 : Int)) >>= fun _ =>
.ok ([(x_cell - ((10 : Int) ^ Int.toNat (18 : Int))), ((x_cell - ((10 : Int) ^ Int.toNat (18 : Int))) % (2147483629 : Int))]))
else (
m_law_stir x_cell (1 : Int) >>= fun r11 =>
chk (CMulW r11 ((10 : Int) ^ Int.toNat (60 : Int))) >>= fun _ =>
m_law_stir x_cell (2 : Int) >>= fun r18 =>
chk (CMulW ((r11 * ((10 : Int) ^ Int.toNat (60 : Int))) + r18) ((10 : Int) ^ Int.toNat (60 : Int))) >>= fun _ =>
m_law_stir x_cell (3 : Int) >>= fun r25 =>
chk (0 < (2147483628 : Int)) >>= fun _ =>
.ok ([((((r11 * ((10 : Int) ^ Int.toNat (60 : Int))) + r18) * ((10 : Int) ^ Int.toNat (60 : Int))) + r25), ((x_cell % (2147483628 : Int)) + (1 : Int))]))
def sp_law_deck (mg : Str → Option Value) : Sp := fun vs H Q E => ∃ (F : Hp) (x_cell : Int), vs = [V.int x_cell] ∧ Pre F [] H ∧
  wp (m_law_deck x_cell) (fun r => ∀ (F' H' : Hp), Gr [] F H F' H' → ∀ (p : Addr) (w : (List V)), H p = none → F' p = none → H' p = some (.lst w) → RL (a := Int) F' w r → Q (.ref p) H')
  (fun n => ∀ (C : Addr) (H' : Hp), mg (Str.ofString n) = some (.ref C) → Kp [] H H' → E (.ref C) none H')
set_option maxHeartbeats 2000000 in
theorem ok_law_deck (nb : Nb mg) (C_law_stir : Ca P w K mg base "_law_stir" 1 ["cell", "k"] (sp_law_stir mg)) (D : Df K mg "_law_deck" "_law_deck" s_law_deck ["cell"]) : Ca P w K mg base "_law_deck" 2 ["cell"] (sp_law_deck mg) := by
  obtain ⟨fa_law_stir, fd_law_stir, G_law_stir, M_law_stir, K_law_stir, B_law_stir⟩ := C_law_stir.ex
  refine Ca.mk' D sc_law_deck (fun vs H Q E h => ?_) (fun q_ f_ cdv A outer s H vs Q E hr h => ?_)
  · obtain ⟨F, _, rfl, _⟩ := h
    rfl
  · obtain ⟨F, x_cell, rfl, P0, hk⟩ := h
    have nd := sc_law_deck.nd
    have hu64 := hr.units
    have hu128 := hu128_of hr
    have O := P0.start
    refine ⟨_, (pss_cons (ps_if (pt_cmpR op_ge (pv 0) (pe_op op_pow pe_int pe_int) (nomark _)) (pss_one (ps_ret (pe_lst (pa_cons (pe_op op_sub (pv 0) (pe_op op_pow pe_int pe_int)) (pa_cons (pe_op op_mod (pe_op op_sub (pv 0) (pe_op op_pow pe_int pe_int)) pe_int) pa_nil))))) pss_nil)
  (pss_cons (ps_set (i := 1) nd rfl (Or.inl rfl) (pe_op op_add (pe_op op_mulW (pe_op op_add (pe_op op_mulW (pe_call G_law_stir (hr.mono (by decide)) rfl M_law_stir K_law_stir B_law_stir .nil (passes_call (takes_of rfl rfl rfl rfl) fun _ _ _ _ h => h) (pa_cons (pv 0) (pa_cons pe_int pa_nil))) (pe_op op_pow pe_int pe_int)) (pe_call G_law_stir (hr.mono (by decide)) rfl M_law_stir K_law_stir B_law_stir .nil (passes_call (takes_of rfl rfl rfl rfl) fun _ _ _ _ h => h) (pa_cons (pv 0) (pa_cons pe_int pa_nil)))) (pe_op op_pow pe_int pe_int)) (pe_call G_law_stir (hr.mono (by decide)) rfl M_law_stir K_law_stir B_law_stir .nil (passes_call (takes_of rfl rfl rfl rfl) fun _ _ _ _ h => h) (pa_cons (pv 0) (pa_cons pe_int pa_nil)))))
  (pss_one (ps_ret (pe_lst (pa_cons (pv 1) (pa_cons (pe_op op_add (pe_op op_mod (pv 0) pe_int) pe_int) pa_nil))))))), ?_⟩
    refine ⟨_, rfl, _, _, rfl, rfl, (by decide), _, _, rfl, rfl, _, rfl, ?_⟩
    refine iteD (fun q1 => ?_) (fun q1 => ?_)
    · have hk := wp_if hk q1
      obtain ⟨c5, hk⟩ := wp_chk hk
      refine ⟨_, rfl, _, _, rfl, rfl, (by decide), _, _, rfl, rfl, _, rfl, _, _, rfl, rfl, (by decide), _, _, rfl, rfl, _, _, rfl, rfl, c5, (by show 2 ≤ sizeLine; decide), fun p6 hp7 => ?_⟩
      have hl9 : RL (a := Int) F ([V.int (x_cell - ((10 : Int) ^ Int.toNat (18 : Int))), V.int ((x_cell - ((10 : Int) ^ Int.toNat (18 : Int))) % (2147483629 : Int))]) ([(x_cell - ((10 : Int) ^ Int.toNat (18 : Int))), ((x_cell - ((10 : Int) ^ Int.toNat (18 : Int))) % (2147483629 : Int))]) := RL.cons R.int (RL.cons R.int RL.nil)
      have z10 := O.was hp7
      have O8 := O.new (o := .lst ([V.int (x_cell - ((10 : Int) ^ Int.toNat (18 : Int))), V.int ((x_cell - ((10 : Int) ^ Int.toNat (18 : Int))) % (2147483629 : Int))])) hp7
      exact hk _ _  O8.g  _ _ z10 (O8.cf _ (List.mem_of_getElem? (i := 0) rfl)) (O8.at 0 rfl) hl9
    · have hk := wp_el hk q1
      refine ⟨_, rfl, _, _, _, rfl, O.pre0, wp_call hk (fun r11 er12 hk F13 H14 g15 => ?_) (fun n hn C H1 hC kp => hn C H1 hC (O.kp0 kp))⟩
      have O16 := O.call0 g15
      have S_ := g15.f
      obtain ⟨c17, hk⟩ := wp_chk hk
      refine ⟨_, _, rfl, rfl, (by decide), _, _, rfl, rfl, c17, _, rfl, _, _, _, rfl, O16.pre0, wp_call hk (fun r18 er19 hk F20 H21 g22 => ?_) (fun n hn C H1 hC kp => hn C H1 hC (O16.kp0 kp))⟩
      have O23 := O16.call0 g22
      have S_ := g22.f
      obtain ⟨c24, hk⟩ := wp_chk hk
      refine ⟨_, _, rfl, rfl, _, _, rfl, rfl, (by decide), _, _, rfl, rfl, c24, _, rfl, _, _, _, rfl, O23.pre0, wp_call hk (fun r25 er26 hk F27 H28 g29 => ?_) (fun n hn C H1 hC kp => hn C H1 hC (O23.kp0 kp))⟩
      have O30 := O23.call0 g29
      have S_ := g29.f
      obtain ⟨c33, hk⟩ := wp_chk hk
      refine ⟨_, _, rfl, rfl, _, rfl, _, rfl, _, _, rfl, rfl, c33, _, _, rfl, rfl, (by show 2 ≤ sizeLine; decide), fun p34 hp35 => ?_⟩
      have hl37 : RL (a := Int) F27 ([V.int ((((r11 * ((10 : Int) ^ Int.toNat (60 : Int))) + r18) * ((10 : Int) ^ Int.toNat (60 : Int))) + r25), V.int ((x_cell % (2147483628 : Int)) + (1 : Int))]) ([((((r11 * ((10 : Int) ^ Int.toNat (60 : Int))) + r18) * ((10 : Int) ^ Int.toNat (60 : Int))) + r25), ((x_cell % (2147483628 : Int)) + (1 : Int))]) := RL.cons R.int (RL.cons R.int RL.nil)
      have z38 := O30.was hp35
      have O36 := O30.new (o := .lst ([V.int ((((r11 * ((10 : Int) ^ Int.toNat (60 : Int))) + r18) * ((10 : Int) ^ Int.toNat (60 : Int))) + r25), V.int ((x_cell % (2147483628 : Int)) + (1 : Int))])) hp35
      exact hk _ _  O36.g  _ _ z38 (O36.cf _ (List.mem_of_getElem? (i := 0) rfl)) (O36.at 0 rfl) hl37
abbrev s_law_take : Stmt := top 43
theorem sc_law_take : FnScope ["deck", "many", "taken"] ["deck", "many"] (defScope s_law_take) := ⟨rfl, rfl, rfl, by decide +kernel, rfl, by decide +kernel, by decide +kernel⟩
def m_law_take (x_deck : (List Int)) (x_many : Int) : M (Int × (List Int)) :=
opt (atI x_deck (0 : Int)) >>= fun y1 =>
if y1 = (0 : Int) then (
opt (atI x_deck (1 : Int)) >>= fun y7 =>
chk (CMulW y7 (48271 : Int)) >>= fun _ =>
opt (atI x_deck (1 : Int)) >>= fun y13 =>
chk (CDivW y13 (7 : Int)) >>= fun _ =>
chk (0 < (2147483647 : Int)) >>= fun _ =>
setI x_deck (1 : Int) (((y7 * (48271 : Int)) + (y13 / (7 : Int))) % (2147483647 : Int)) >>= fun z22 =>
opt (atI z22 (1 : Int)) >>= fun y25 =>
chk (CMulW y25 (69621 : Int)) >>= fun _ =>
chk (0 < (2147483563 : Int)) >>= fun _ =>
chk (CDivW ((y25 * (69621 : Int)) % (2147483563 : Int)) (8 : Int)) >>= fun _ =>
chk (0 < x_many) >>= fun _ =>
.ok (((((y25 * (69621 : Int)) % (2147483563 : Int)) / (8 : Int)) % x_many), z22))
else (
opt (atI x_deck (0 : Int)) >>= fun y34 =>
chk (0 < x_many) >>= fun _ =>
opt (atI x_deck (0 : Int)) >>= fun y40 =>
chk (CDivW y40 x_many) >>= fun _ =>
setI x_deck (0 : Int) (y40 / x_many) >>= fun z48 =>
.ok ((y34 % x_many), z48))
def sp_law_take (mg : Str → Option Value) : Sp := fun vs H Q E => ∃ (F : Hp) (a_deck : Addr) (w_deck : (List V)) (x_deck : (List Int)) (x_many : Int), vs = [.ref a_deck, V.int x_many] ∧ Pre F [(a_deck, .lst w_deck)] H ∧ RL (a := Int) F w_deck x_deck ∧
  wp (m_law_take x_deck x_many) (fun r => ∀ (F' H' : Hp) (w0 : (List V)), Gr [a_deck] F H F' H' → H' a_deck = some (.lst w0) → RL (a := Int) F' w0 r.2 → Q (V.int r.1) H')
  (fun n => ∀ (C : Addr) (H' : Hp), mg (Str.ofString n) = some (.ref C) → Kp [a_deck] H H' → E (.ref C) none H')
set_option maxHeartbeats 2000000 in
theorem ok_law_take (nb : Nb mg) (D : Df K mg "_law_take" "_law_take" s_law_take ["deck", "many"]) : Ca P w K mg base "_law_take" 1 ["deck", "many"] (sp_law_take mg) := by
  refine Ca.mk' D sc_law_take (fun vs H Q E h => ?_) (fun q_ f_ cdv A outer s H vs Q E hr h => ?_)
  · obtain ⟨F, _, _, _, _, rfl, _⟩ := h
    rfl
  · obtain ⟨F, a_deck, w_deck, x_deck, x_many, rfl, P0, f_deck, hk⟩ := h
    have nd := sc_law_take.nd
    have hu64 := hr.units
    have hu128 := hu128_of hr
    have O := P0.start
    refine ⟨_, (pss_cons (ps_if (pt_cmpR (op_eqT Int hu64) (pe_ix (ixListK (K := K) rfl) (pv 0) pe_int (fun _ _ => rfl)) pe_int (nomark _)) (pss_cons (ps_asg (pe_op op_mod (pe_op op_add (pe_op op_mulW (pe_ix (ixListK (K := K) rfl) (pv 0) pe_int (fun _ _ => rfl)) pe_int) (pe_op op_fdivW (pe_ix (ixListK (K := K) rfl) (pv 0) pe_int (fun _ _ => rfl)) pe_int)) pe_int) (pg_sub (pv 0) pe_int set_list))
  (pss_one (ps_ret (pe_op op_mod (pe_op op_fdivW (pe_op op_mod (pe_op op_mulW (pe_ix (ixListK (K := K) rfl) (pv 0) pe_int (fun _ _ => rfl)) pe_int) pe_int) pe_int) (pv 1))))) pss_nil)
  (pss_cons (ps_set (i := 2) nd rfl (Or.inl rfl) (pe_op op_mod (pe_ix (ixListK (K := K) rfl) (pv 0) pe_int (fun _ _ => rfl)) (pv 1)))
  (pss_cons (ps_asg (pe_op op_fdivW (pe_ix (ixListK (K := K) rfl) (pv 0) pe_int (fun _ _ => rfl)) (pv 1)) (pg_sub (pv 0) pe_int set_list))
  (pss_one (ps_ret (pv 2)))))), ?_⟩
    obtain ⟨y1, e2, hk⟩ := wp_opt hk
    obtain ⟨w3, e4, r5⟩ := f_deck.atI e2
    obtain rfl := R.int_ r5
    refine ⟨_, rfl, _, _, _, _, rfl, rfl, (SqL.of (O.at 0 rfl)), e4, _, _, R.int, R.int, _, rfl, ?_⟩
    refine iteD (fun q6 => ?_) (fun q6 => ?_)
    · have hk := wp_if hk q6
      obtain ⟨y7, e8, hk⟩ := wp_opt hk
      obtain ⟨w9, e10, r11⟩ := f_deck.atI e8
      obtain rfl := R.int_ r11
      obtain ⟨c12, hk⟩ := wp_chk hk
      obtain ⟨y13, e14, hk⟩ := wp_opt hk
      obtain ⟨w15, e16, r17⟩ := f_deck.atI e14
      obtain rfl := R.int_ r17
      obtain ⟨c18, hk⟩ := wp_chk hk
      obtain ⟨c19, hk⟩ := wp_chk hk
      obtain ⟨j20, e21, hk⟩ := wp_setI hk
      refine ⟨_, rfl, _, _, _, _, rfl, rfl, (SqL.of (O.at 0 rfl)), e10, _, _, rfl, rfl, c12, _, rfl, _, _, _, _, rfl, rfl, (SqL.of (O.at 0 rfl)), e16, _, _, rfl, rfl, c18, _, _, rfl, rfl, _, _, rfl, rfl, c19, _, rfl, _, _, _, _, rfl, rfl, (O.at 0 rfl), (by rw [f_deck.len]; exact e21), ?_⟩
      have O23 := O.set 0 (.lst (w_deck.set j20 (V.int (((y7 * (48271 : Int)) + (y13 / (7 : Int))) % (2147483647 : Int))))) rfl
      have hl24 : RL (a := Int) F (w_deck.set j20 (V.int (((y7 * (48271 : Int)) + (y13 / (7 : Int))) % (2147483647 : Int)))) (x_deck.set j20 (((y7 * (48271 : Int)) + (y13 / (7 : Int))) % (2147483647 : Int))) := RL.set j20 f_deck R.int
      obtain ⟨y25, e26, hk⟩ := wp_opt hk
      obtain ⟨w27, e28, r29⟩ := hl24.atI e26
      obtain rfl := R.int_ r29
      obtain ⟨c30, hk⟩ := wp_chk hk
      obtain ⟨c31, hk⟩ := wp_chk hk
      obtain ⟨c32, hk⟩ := wp_chk hk
      obtain ⟨c33, hk⟩ := wp_chk hk
      refine ⟨_, rfl, _, _, _, _, rfl, rfl, (SqL.of (O23.at 0 rfl)), e28, _, _, rfl, rfl, c30, _, _, rfl, rfl, c31, _, _, rfl, rfl, c32, _, rfl, _, _, rfl, rfl, c33, ?_⟩
      exact hk _ _ (w_deck.set j20 (V.int (((y7 * (48271 : Int)) + (y13 / (7 : Int))) % (2147483647 : Int)))) O23.g (O23.at 0 rfl) hl24
    · have hk := wp_el hk q6
      obtain ⟨y34, e35, hk⟩ := wp_opt hk
      obtain ⟨w36, e37, r38⟩ := f_deck.atI e35
      obtain rfl := R.int_ r38
      obtain ⟨c39, hk⟩ := wp_chk hk
      obtain ⟨y40, e41, hk⟩ := wp_opt hk
      obtain ⟨w42, e43, r44⟩ := f_deck.atI e41
      obtain rfl := R.int_ r44
      obtain ⟨c45, hk⟩ := wp_chk hk
      obtain ⟨j46, e47, hk⟩ := wp_setI hk
      refine ⟨_, rfl, _, _, _, _, rfl, rfl, (SqL.of (O.at 0 rfl)), e37, _, rfl, _, _, rfl, rfl, c39, _, rfl, _, _, _, _, rfl, rfl, (SqL.of (O.at 0 rfl)), e43, _, rfl, _, _, rfl, rfl, c45, _, rfl, _, _, _, _, rfl, rfl, (O.at 0 rfl), (by rw [f_deck.len]; exact e47), ?_⟩
      have O49 := O.set 0 (.lst (w_deck.set j46 (V.int (y40 / x_many)))) rfl
      have hl50 : RL (a := Int) F (w_deck.set j46 (V.int (y40 / x_many))) (x_deck.set j46 (y40 / x_many)) := RL.set j46 f_deck R.int
      refine ⟨_, rfl, ?_⟩
      exact hk _ _ (w_deck.set j46 (V.int (y40 / x_many))) O49.g (O49.at 0 rfl) hl50
abbrev s_law_number : Stmt := top 45
theorem sc_law_number : FnScope ["deck", "far"] ["deck", "far"] (defScope s_law_number) := ⟨rfl, rfl, rfl, by decide +kernel, rfl, by decide +kernel, by decide +kernel⟩
def m_law_number (x_deck : (List Int)) (x_far : Int) : M (Int × (List Int)) :=
chk (CMulW (2 : Int) x_far) >>= fun _ =>
m_law_take x_deck (((2 : Int) * x_far) + (1 : Int)) >>= fun r2 =>
.ok ((r2.1 - x_far), r2.2)
def sp_law_number (mg : Str → Option Value) : Sp := fun vs H Q E => ∃ (F : Hp) (a_deck : Addr) (w_deck : (List V)) (x_deck : (List Int)) (x_far : Int), vs = [.ref a_deck, V.int x_far] ∧ Pre F [(a_deck, .lst w_deck)] H ∧ RL (a := Int) F w_deck x_deck ∧
  wp (m_law_number x_deck x_far) (fun r => ∀ (F' H' : Hp) (w0 : (List V)), Gr [a_deck] F H F' H' → H' a_deck = some (.lst w0) → RL (a := Int) F' w0 r.2 → Q (V.int r.1) H')
  (fun n => ∀ (C : Addr) (H' : Hp), mg (Str.ofString n) = some (.ref C) → Kp [a_deck] H H' → E (.ref C) none H')
set_option maxHeartbeats 2000000 in
theorem ok_law_number (nb : Nb mg) (C_law_take : Ca P w K mg base "_law_take" 1 ["deck", "many"] (sp_law_take mg)) (D : Df K mg "_law_number" "_law_number" s_law_number ["deck", "far"]) : Ca P w K mg base "_law_number" 2 ["deck", "far"] (sp_law_number mg) := by
  obtain ⟨fa_law_take, fd_law_take, G_law_take, M_law_take, K_law_take, B_law_take⟩ := C_law_take.ex
  refine Ca.mk' D sc_law_number (fun vs H Q E h => ?_) (fun q_ f_ cdv A outer s H vs Q E hr h => ?_)
  · obtain ⟨F, _, _, _, _, rfl, _⟩ := h
    rfl
  · obtain ⟨F, a_deck, w_deck, x_deck, x_far, rfl, P0, f_deck, hk⟩ := h
    have nd := sc_law_number.nd
    have hu64 := hr.units
    have hu128 := hu128_of hr
    have O := P0.start
    refine ⟨_, (pss_one (ps_ret (pe_op op_sub (pe_call G_law_take (hr.mono (by decide)) rfl M_law_take K_law_take B_law_take .nil (passes_call (takes_of rfl rfl rfl rfl) fun _ _ _ _ h => h) (pa_cons (pv 0) (pa_cons (pe_op op_add (pe_op op_mulW pe_int (pv 1)) pe_int) pa_nil))) (pv 1)))), ?_⟩
    obtain ⟨c1, hk⟩ := wp_chk hk
    refine ⟨_, rfl, _, rfl, _, _, rfl, rfl, c1, _, _, rfl, rfl, _, _, _, _, _, rfl, (O.pre1 0 rfl), f_deck, wp_call hk (fun r2 er3 hk F4 H5 w7 g6 h8 hl9 => ?_) (fun n hn C H1 hC kp => hn C H1 hC (O.kp1 kp 0 rfl))⟩
    have O10 := O.call1 g6 0 rfl h8
    have S_ := g6.f
    refine ⟨_, rfl, _, _, rfl, rfl, ?_⟩
    exact hk _ _ w7 O10.g (O10.at 0 rfl) hl9
abbrev s_law_order : Stmt := top 46
theorem sc_law_order : FnScope ["deck", "many", "left", "found", "k"] ["deck", "many"] (defScope s_law_order) := ⟨rfl, rfl, rfl, by decide +kernel, rfl, by decide +kernel, by decide +kernel⟩
def m_law_order (x_deck : (List Int)) (x_many : Int) : M ((List Int) × (List Int)) :=
chk (okR x_many) >>= fun _ =>
chk (okR x_many) >>= fun _ =>
loopN (fun (y14 : Int) (st26 : (List Int) × (List Int) × (List Int)) =>
m_law_take st26.2.2 (st26.2.1.length : Int) >>= fun r36 =>
popI st26.2.1 r36.1 >>= fun t54 =>
appL st26.1 t54.1 >>= fun _ =>
.ok ((st26.1 ++ [t54.1]), t54.2, r36.2)) (rangeL 0 x_many) (([] : List Int), (rangeL 0 x_many), x_deck) >>= fun st64 =>
.ok (st64.1, st64.2.2)
def sp_law_order (mg : Str → Option Value) : Sp := fun vs H Q E => ∃ (F : Hp) (a_deck : Addr) (w_deck : (List V)) (x_deck : (List Int)) (x_many : Int), vs = [.ref a_deck, V.int x_many] ∧ Pre F [(a_deck, .lst w_deck)] H ∧ RL (a := Int) F w_deck x_deck ∧
  wp (m_law_order x_deck x_many) (fun r => ∀ (F' H' : Hp) (w0 : (List V)), Gr [a_deck] F H F' H' → H' a_deck = some (.lst w0) → RL (a := Int) F' w0 r.2 → ∀ (p : Addr) (w : (List V)), H p = none → F' p = none → H' p = some (.lst w) → RL (a := Int) F' w r.1 → Q (.ref p) H')
  (fun n => ∀ (C : Addr) (H' : Hp), mg (Str.ofString n) = some (.ref C) → Kp [a_deck] H H' → E (.ref C) none H')
set_option maxHeartbeats 2000000 in
theorem ok_law_order (nb : Nb mg) (C_law_take : Ca P w K mg base "_law_take" 1 ["deck", "many"] (sp_law_take mg)) (D : Df K mg "_law_order" "_law_order" s_law_order ["deck", "many"]) : Ca P w K mg base "_law_order" 2 ["deck", "many"] (sp_law_order mg) := by
  obtain ⟨fa_law_take, fd_law_take, G_law_take, M_law_take, K_law_take, B_law_take⟩ := C_law_take.ex
  refine Ca.mk' D sc_law_order (fun vs H Q E h => ?_) (fun q_ f_ cdv A outer s H vs Q E hr h => ?_)
  · obtain ⟨F, _, _, _, _, rfl, _⟩ := h
    rfl
  · obtain ⟨F, a_deck, w_deck, x_deck, x_many, rfl, P0, f_deck, hk⟩ := h
    have nd := sc_law_order.nd
    have hu64 := hr.units
    have hu128 := hu128_of hr
    have O := P0.start
    refine ⟨_, (pss_cons (ps_set (i := 2) nd rfl (Or.inl rfl) (pe_listRg rfl (by rfl) nb.b_list (prg_1 (by rfl) nb.b_range (pv 1))))
  (pss_cons (ps_set (i := 3) nd rfl (Or.inl rfl) (pe_lst pa_nil))
  (pss_cons (ps_for (passes_of rfl) rfl (pi_range1 rfl nb.b_range (pa_cons (pv 1) pa_nil)) (pg_name (i := 4) nd rfl (Or.inl rfl)) (pss_one (ps_expr (pe_bm PySem.F.plainAttrs_list PySem.F.slot_list_append PySem.F.type_list_append mt_append (pv 3) (pa_cons (pe_bm PySem.F.plainAttrs_list PySem.F.slot_list_pop PySem.F.type_list_pop mt_popAt (pv 2) (pa_cons (pe_call G_law_take (hr.mono (by decide)) rfl M_law_take K_law_take B_law_take .nil (passes_call (takes_of rfl rfl rfl rfl) fun _ _ _ _ h => h) (pa_cons (pv 0) (pa_cons (pe_callB call_lenT (by rfl) nb.b_len PySem.boot_len (pa_cons (pv 2) pa_nil)) pa_nil))) pa_nil)) pa_nil)))))
  (pss_one (ps_ret (pv 3)))))), ?_⟩
    obtain ⟨c2, hk⟩ := wp_chk hk
    refine ⟨_, rfl, _, rfl, c2.rg1, fun p3 hp4 => ?_⟩
    have hl6 : RL (a := Int) F (rgV 0 x_many) (rangeL 0 x_many) := RL.rg
    have z7 := O.was hp4
    have O5 := O.new (o := .lst (rgV 0 x_many)) hp4
    refine ⟨(by show 0 ≤ sizeLine; decide), fun p9 hp10 => ?_⟩
    have hl12 : RL (a := Int) F ([]) ([] : List Int) := RL.nil
    have z13 := O5.was hp10
    have O11 := O5.new (o := .lst ([])) hp10
    obtain ⟨c15, hk⟩ := wp_chk hk
    obtain ⟨L16, hL17, hLs18, hLd19⟩ := loopN_L hk
    refine ⟨_, rfl, _, rfl, c15.lo, c15.hi, ?_⟩
    refine for_range (lo := 0) (n := (x_many).toNat) (fun i σ H => ∃ (F_ : Hp) (st : (List Int) × (List Int) × (List Int)) (w_0 : (List V)) (w_1 : (List V)) (w_2 : (List V)) (t_0 : Option V), σ = [some (V.ref a_deck), some (V.int x_many), some (V.ref p3), some (V.ref p9), t_0] ∧ Same F F_ ∧ Ow _ F_ [(p9, .lst w_0), (p3, .lst w_1), (a_deck, .lst w_2)] H ∧ RL (a := Int) F_ w_0 st.1 ∧ RL (a := Int) F_ w_1 st.2.1 ∧ RL (a := Int) F_ w_2 st.2.2 ∧ L16 (List.drop i (rangeL 0 x_many)) st) ⟨F, (([] : List Int), (rangeL 0 x_many), x_deck), [], (rgV 0 x_many), w_deck, none, rfl, Same.refl _, O11, hl12, hl6, f_deck, hL17⟩ ?_ ?_
    · rintro i20 sg22 H23 hi24 ⟨F34, st26, w27, w28, w29, t33, rfl, S25, O35, hl30, hl31, hl32, hL17⟩
      rw [rangeL_get0 hi24] at hL17
      have hk := hLs18 _ _ _ hL17
      obtain ⟨y14, he_⟩ : ∃ z_, z_ = 0 + (i20 : Int) := ⟨_, rfl⟩
      try rw [← he_] at hk
      rw [← he_]
      refine ⟨_, rfl, (.inl ⟨rfl, _, SqL.of (O35.at 0 rfl)⟩), _, rfl, (.inl ⟨rfl, _, SqL.of (O35.at 1 rfl)⟩), _, rfl, _, rfl, _, _, _, rfl, (.inl (O35.at 1 rfl)), hl31.len, _, _, _, _, _, rfl, (O35.pre1 2 rfl), hl32, wp_call hk (fun r36 er37 hk F38 H39 w41 g40 h42 hl43 => ?_) (fun n hn C H1 hC kp => hn C H1 hC (O35.kp1 kp 2 rfl))⟩
      have O44 := O35.call1 g40 2 rfl h42
      have S_ := g40.f
      have hl30 := hl30.mono S_
      have hl31 := hl31.mono S_
      have S25 := S25.trans S_
      obtain ⟨j45, y46, e47, c48, c49, e50, hk⟩ := wp_popI hk
      obtain ⟨w51, e52, r53⟩ := hl31.get e50
      refine ⟨_, _, _, _, _, rfl, rfl, (O44.at 1 rfl), c48, c49, (by rw [hl31.len]; exact e47), e52, ?_⟩
      obtain rfl := R.int_ r53
      have O55 := O44.set 1 (.lst (w28.eraseIdx j45)) rfl
      have hl56 : RL (a := Int) F38 (w28.eraseIdx j45) (st26.2.1.eraseIdx j45) := RL.erase j45 hl31
      obtain ⟨c57, hk⟩ := wp_appL hk
      refine ⟨_, _, _, rfl, rfl, (O55.at 0 rfl), (by rw [hl30.len]; exact c57), ?_⟩
      have O59 := O55.set 0 (.lst (w27 ++ [V.int y46])) rfl
      have hl60 : RL (a := Int) F38 (w27 ++ [V.int y46]) (st26.1 ++ [y46]) := RL.snoc hl30 R.int
      exact ⟨F38, ((st26.1 ++ [y46]), st26.2.1.eraseIdx j45, r36.2), (w27 ++ [V.int y46]), (w28.eraseIdx j45), w41, some (V.int y14), rfl, S25, O59, hl60, hl56, hl43, hk⟩
    rintro sg61 H62 ⟨F73, st64, w66, w67, w68, t72, rfl, S63, O74, hl69, hl70, hl71, hL65⟩
    rw [rangeL_end0] at hL65
    have hk := hLd19 _ hL65
    refine ⟨_, rfl, ?_⟩
    exact hk _ _ w68 O74.g (O74.at 2 rfl) hl71 _ _ z13 (O74.cf _ (List.mem_of_getElem? (i := 0) rfl)) (O74.at 0 rfl) hl69
abbrev s_law_tree : Stmt := top 47
theorem sc_law_tree : FnScope ["deck", "most", "far", "many", "order", "kind", "ties", "k", "at", "pair"] ["deck", "most", "far"] (defScope s_law_tree) := ⟨rfl, rfl, rfl, by decide +kernel, rfl, by decide +kernel, by decide +kernel⟩
def m_law_tree (x_deck : (List Int)) (x_most : Int) (x_far : Int) : M (((List Int) × (List (T3 Int Int Int))) × (List Int)) :=
m_law_take x_deck x_most >>= fun r1 =>
m_law_order r1.2 ((1 : Int) + r1.1) >>= fun r10 =>
m_law_take r10.2 (5 : Int) >>= fun r32 =>
chk (okR (1 : Int)) >>= fun _ =>
chk (okR ((1 : Int) + r1.1)) >>= fun _ =>
loopN (fun (y47 : Int) (st60 : (List Int) × (List (T3 Int Int Int))) =>
m_law_take st60.1 y47 >>= fun r70 =>
m_law_take r70.2 (3 : Int) >>= fun r79 =>
m_law_take r79.2 y47 >>= fun r88 =>
opt (atI ([r70.1, (y47 - (1 : Int)), (0 : Int), (if ((y47 - (1 : Int)) - r79.1) > (0 : Int) then ((y47 - (1 : Int)) - r79.1) else (0 : Int)), r88.1]) r32.1) >>= fun y110 =>
opt (atI r10.1 y47) >>= fun y120 =>
opt (atI r10.1 y110) >>= fun y130 =>
opt (atI (sortT ([y120, y130])) (0 : Int)) >>= fun y161 =>
opt (atI (sortT ([y120, y130])) (1 : Int)) >>= fun y171 =>
m_law_number r88.2 x_far >>= fun r176 =>
appL st60.2 (T3.mk y161 y171 r176.1) >>= fun _ =>
.ok (r176.2, (st60.2 ++ [(T3.mk y161 y171 r176.1)]))) (rangeL (1 : Int) ((1 : Int) + r1.1)) (r32.2, ([] : List (T3 Int Int Int))) >>= fun st199 =>
chk (okR ((1 : Int) + r1.1)) >>= fun _ =>
compS (fun (y210 : Int) (st228 : (List Int)) =>
m_law_number st228 x_far >>= fun r234 =>
.ok (some r234.1, r234.2)) (rangeL 0 ((1 : Int) + r1.1)) st199.1 >>= fun q256 =>
.ok ((q256.1, (sortT st199.2)), q256.2)
def sp_law_tree (mg : Str → Option Value) : Sp := fun vs H Q E => ∃ (F : Hp) (a_deck : Addr) (w_deck : (List V)) (x_deck : (List Int)) (x_most : Int) (x_far : Int), vs = [.ref a_deck, V.int x_most, V.int x_far] ∧ Pre F [(a_deck, .lst w_deck)] H ∧ RL (a := Int) F w_deck x_deck ∧
  wp (m_law_tree x_deck x_most x_far) (fun r => ∀ (F' H' : Hp) (w0 : (List V)), Gr [a_deck] F H F' H' → H' a_deck = some (.lst w0) → RL (a := Int) F' w0 r.2 → ∀ v : V, R (a := ((List Int) × (List (T3 Int Int Int)))) F' v r.1 → Q v H')
  (fun n => ∀ (C : Addr) (H' : Hp), mg (Str.ofString n) = some (.ref C) → Kp [a_deck] H H' → E (.ref C) none H')
set_option maxHeartbeats 2000000 in
theorem ok_law_tree (nb : Nb mg) (C_law_number : Ca P w K mg base "_law_number" 2 ["deck", "far"] (sp_law_number mg)) (C_law_order : Ca P w K mg base "_law_order" 2 ["deck", "many"] (sp_law_order mg)) (C_law_take : Ca P w K mg base "_law_take" 1 ["deck", "many"] (sp_law_take mg)) (D : Df K mg "_law_tree" "_law_tree" s_law_tree ["deck", "most", "far"]) : Ca P w K mg base "_law_tree" 3 ["deck", "most", "far"] (sp_law_tree mg) := by
  obtain ⟨fa_law_number, fd_law_number, G_law_number, M_law_number, K_law_number, B_law_number⟩ := C_law_number.ex
  obtain ⟨fa_law_order, fd_law_order, G_law_order, M_law_order, K_law_order, B_law_order⟩ := C_law_order.ex
  obtain ⟨fa_law_take, fd_law_take, G_law_take, M_law_take, K_law_take, B_law_take⟩ := C_law_take.ex
  refine Ca.mk' D sc_law_tree (fun vs H Q E h => ?_) (fun q_ f_ cdv A outer s H vs Q E hr h => ?_)
  · obtain ⟨F, _, _, _, _, _, rfl, _⟩ := h
    rfl
  · obtain ⟨F, a_deck, w_deck, x_deck, x_most, x_far, rfl, P0, f_deck, hk⟩ := h
    have nd := sc_law_tree.nd
    have hu64 := hr.units
    have hu128 := hu128_of hr
    have O := P0.start
    refine ⟨_, (pss_cons (ps_set (i := 3) nd rfl (Or.inl rfl) (pe_op op_add pe_int (pe_call G_law_take (hr.mono (by decide)) rfl M_law_take K_law_take B_law_take .nil (passes_call (takes_of rfl rfl rfl rfl) fun _ _ _ _ h => h) (pa_cons (pv 0) (pa_cons (pv 1) pa_nil)))))
  (pss_cons (ps_set (i := 4) nd rfl (Or.inl rfl) (pe_call G_law_order (hr.mono (by decide)) rfl M_law_order K_law_order B_law_order .nil (passes_call (takes_of rfl rfl rfl rfl) fun _ _ _ _ h => h) (pa_cons (pv 0) (pa_cons (pv 3) pa_nil))))
  (pss_cons (ps_set (i := 5) nd rfl (Or.inl rfl) (pe_call G_law_take (hr.mono (by decide)) rfl M_law_take K_law_take B_law_take .nil (passes_call (takes_of rfl rfl rfl rfl) fun _ _ _ _ h => h) (pa_cons (pv 0) (pa_cons pe_int pa_nil))))
  (pss_cons (ps_set (i := 6) nd rfl (Or.inl rfl) (pe_lst pa_nil))
  (pss_cons (ps_for (passes_of rfl) rfl (pi_range2 rfl nb.b_range (pa_cons pe_int (pa_cons (pv 3) pa_nil))) (pg_name (i := 7) nd rfl (Or.inl rfl)) (pss_cons (ps_set (i := 8) nd rfl (Or.inl rfl) (pe_ix (ixListK (K := K) rfl) (pe_lst (pa_cons (pe_call G_law_take (hr.mono (by decide)) rfl M_law_take K_law_take B_law_take .nil (passes_call (takes_of rfl rfl rfl rfl) fun _ _ _ _ h => h) (pa_cons (pv 0) (pa_cons (pv 7) pa_nil))) (pa_cons (pe_op op_sub (pv 7) pe_int) (pa_cons pe_int (pa_cons (pe_callB (call_max2 rfl) (by rfl) nb.b_max (by decide +kernel) (pa_cons pe_int (pa_cons (pe_op op_sub (pe_op op_sub (pv 7) pe_int) (pe_call G_law_take (hr.mono (by decide)) rfl M_law_take K_law_take B_law_take .nil (passes_call (takes_of rfl rfl rfl rfl) fun _ _ _ _ h => h) (pa_cons (pv 0) (pa_cons pe_int pa_nil)))) pa_nil))) (pa_cons (pe_call G_law_take (hr.mono (by decide)) rfl M_law_take K_law_take B_law_take .nil (passes_call (takes_of rfl rfl rfl rfl) fun _ _ _ _ h => h) (pa_cons (pv 0) (pa_cons (pv 7) pa_nil))) pa_nil)))))) (pv 5) (fun _ _ => rfl)))
  (pss_cons (ps_set (i := 9) nd rfl (Or.inl rfl) (pe_callB (cr_sortedT Int hu128) (by rfl) nb.b_sorted (by decide +kernel) (pa_cons (pe_lst (pa_cons (pe_ix (ixListK (K := K) rfl) (pv 4) (pv 7) (fun _ _ => rfl)) (pa_cons (pe_ix (ixListK (K := K) rfl) (pv 4) (pv 8) (fun _ _ => rfl)) pa_nil))) pa_nil)))
  (pss_one (ps_expr (pe_bm PySem.F.plainAttrs_list PySem.F.slot_list_append PySem.F.type_list_append mt_append (pv 6) (pa_cons (pe_tup (pa_cons (pe_ix (ixListK (K := K) rfl) (pv 9) pe_int (fun _ _ => rfl)) (pa_cons (pe_ix (ixListK (K := K) rfl) (pv 9) pe_int (fun _ _ => rfl)) (pa_cons (pe_call G_law_number (hr.mono (by decide)) rfl M_law_number K_law_number B_law_number .nil (passes_call (takes_of rfl rfl rfl rfl) fun _ _ _ _ h => h) (pa_cons (pv 0) (pa_cons (pv 2) pa_nil))) pa_nil)))) pa_nil)))))))
  (pss_one (ps_ret (pe_tup (pa_cons (pe_lc (own := [("k", 7)]) (g := gName 7) (tt := _) rfl nd (pi_range1 rfl nb.b_range (pa_cons (pv 3) pa_nil)) (blkOk_by (own := [("k", 7)]) (N := ["deck", "most", "far", "many", "order", "kind", "ties", "k", "at", "pair"]) (sc := defScope s_law_tree) (by decide +kernel)) (fun _ _ _ _ _ => (pg_name (i := 7) nd rfl (Or.inl rfl))) (fun _ _ _ _ _ => pts_nil) (fun _ _ _ _ _ => (pe_call G_law_number (hr.mono (by decide)) rfl M_law_number K_law_number B_law_number .nil passL (pa_cons (pv 0) (pa_cons (pv 2) pa_nil))))) (pa_cons (pe_callB (cr_sortedT (T3 Int Int Int) hu128) (by rfl) nb.b_sorted (by decide +kernel) (pa_cons (pv 6) pa_nil)) pa_nil)))))))))), ?_⟩
    refine ⟨_, rfl, _, rfl, _, _, _, _, _, rfl, (O.pre1 0 rfl), f_deck, wp_call hk (fun r1 er2 hk F3 H4 w6 g5 h7 hl8 => ?_) (fun n hn C H1 hC kp => hn C H1 hC (O.kp1 kp 0 rfl))⟩
    have O9 := O.call1 g5 0 rfl h7
    have S_ := g5.f
    refine ⟨_, _, rfl, rfl, _, rfl, _, rfl, _, _, _, _, _, rfl, (O9.pre1 0 rfl), hl8, wp_call hk (fun r10 er11 hk F12 H13 w15 g14 h16 hl17 p18 w19 hn20 hf21 h22 hl23 => ?_) (fun n hn C H1 hC kp => hn C H1 hC (O9.kp1 kp 0 rfl))⟩
    have O24 := O9.call1 g14 0 rfl h16
    have S_ := g14.f
    have O25 := O9.got O24 rfl hn20 hf21 h22
    have z26 := O9.was hn20
    obtain ⟨F27, O28, S29, h30⟩ := O25.frzE 0 rfl z26
    have hl17 := hl17.mono S29
    have hl23 := hl23.mono S29
    have h31 := R.lst (a := Int) h30 hl23
    refine ⟨_, rfl, _, _, _, _, _, rfl, (O28.pre1 0 rfl), hl17, wp_call hk (fun r32 er33 hk F34 H35 w37 g36 h38 hl39 => ?_) (fun n hn C H1 hC kp => hn C H1 hC (O28.kp1 kp 0 rfl))⟩
    have O40 := O28.call1 g36 0 rfl h38
    have S_ := g36.f
    have h31 := h31.mono S_
    refine ⟨(by show 0 ≤ sizeLine; decide), fun p42 hp43 => ?_⟩
    have hl45 : RL (a := (T3 Int Int Int)) F34 ([]) ([] : List (T3 Int Int Int)) := RL.nil
    have z46 := O40.was hp43
    have O44 := O40.new (o := .lst ([])) hp43
    obtain ⟨c48, hk⟩ := wp_chk hk
    obtain ⟨c49, hk⟩ := wp_chk hk
    obtain ⟨L50, hL51, hLs52, hLd53⟩ := loopN_L hk
    refine ⟨_, rfl, _, _, rfl, ⟨c48.lo, c48.hi, c49.lo, c49.hi⟩, ?_⟩
    refine for_range (lo := (1 : Int)) (n := (((1 : Int) + r1.1) - (1 : Int)).toNat) (fun i σ H => ∃ (F_ : Hp) (st : (List Int) × (List (T3 Int Int Int))) (w_0 : (List V)) (w_1 : (List V)) (t_0 : Option V) (t_1 : Option V) (t_2 : Option V), σ = [some (V.ref a_deck), some (V.int x_most), some (V.int x_far), some (V.int ((1 : Int) + r1.1)), some (V.ref p18), some (V.int r32.1), some (V.ref p42), t_0, t_1, t_2] ∧ Same F34 F_ ∧ Ow _ F_ [(p42, .lst w_1), (a_deck, .lst w_0)] H ∧ RL (a := Int) F_ w_0 st.1 ∧ RL (a := (T3 Int Int Int)) F_ w_1 st.2 ∧ L50 (List.drop i (rangeL (1 : Int) ((1 : Int) + r1.1))) st) ⟨F34, (r32.2, ([] : List (T3 Int Int Int))), w37, [], none, none, none, rfl, Same.refl _, O44, hl39, hl45, hL51⟩ ?_ ?_
    · rintro i54 sg56 H57 hi58 ⟨F68, st60, w61, w62, t65, t66, t67, rfl, S59, O69, hl63, hl64, hL51⟩
      have h31 := h31.mono S59
      rw [rangeL_get hi58] at hL51
      have hk := hLs52 _ _ _ hL51
      obtain ⟨y47, he_⟩ : ∃ z_, z_ = (1 : Int) + (i54 : Int) := ⟨_, rfl⟩
      try rw [← he_] at hk
      rw [← he_]
      refine ⟨_, rfl, _, rfl, _, _, _, _, _, rfl, (O69.pre1 1 rfl), hl63, wp_call hk (fun r70 er71 hk F72 H73 w75 g74 h76 hl77 => ?_) (fun n hn C H1 hC kp => hn C H1 hC (O69.kp1 kp 1 rfl))⟩
      have O78 := O69.call1 g74 1 rfl h76
      have S_ := g74.f
      have h31 := h31.mono S_
      have hl64 := hl64.mono S_
      have S59 := S59.trans S_
      refine ⟨_, rfl, _, _, rfl, rfl, _, rfl, _, _, rfl, rfl, _, rfl, _, _, _, _, _, rfl, (O78.pre1 1 rfl), hl77, wp_call hk (fun r79 er80 hk F81 H82 w84 g83 h85 hl86 => ?_) (fun n hn C H1 hC kp => hn C H1 hC (O78.kp1 kp 1 rfl))⟩
      have O87 := O78.call1 g83 1 rfl h85
      have S_ := g83.f
      have h31 := h31.mono S_
      have hl64 := hl64.mono S_
      have S59 := S59.trans S_
      refine ⟨_, _, rfl, rfl, _, _, rfl, _, rfl, _, rfl, _, _, _, _, _, rfl, (O87.pre1 1 rfl), hl86, wp_call hk (fun r88 er89 hk F90 H91 w93 g92 h94 hl95 => ?_) (fun n hn C H1 hC kp => hn C H1 hC (O87.kp1 kp 1 rfl))⟩
      have O96 := O87.call1 g92 1 rfl h94
      have S_ := g92.f
      have h31 := h31.mono S_
      have hl64 := hl64.mono S_
      have S59 := S59.trans S_
      refine ⟨(by show 5 ≤ sizeLine; decide), fun p97 hp98 => ?_⟩
      have hl104 : RL (a := Int) F90 ([V.int r70.1, V.int (y47 - (1 : Int)), V.int (0 : Int), V.int (if ((y47 - (1 : Int)) - r79.1) > (0 : Int) then ((y47 - (1 : Int)) - r79.1) else (0 : Int)), V.int r88.1]) ([r70.1, (y47 - (1 : Int)), (0 : Int), (if ((y47 - (1 : Int)) - r79.1) > (0 : Int) then ((y47 - (1 : Int)) - r79.1) else (0 : Int)), r88.1]) := RL.cons R.int (RL.cons R.int (RL.cons R.int (RL.cons R.int (RL.cons R.int RL.nil))))
      obtain ⟨F99, O100, S101, h102⟩ := O96.putE hp98 (.lst ([V.int r70.1, V.int (y47 - (1 : Int)), V.int (0 : Int), V.int (if ((y47 - (1 : Int)) - r79.1) > (0 : Int) then ((y47 - (1 : Int)) - r79.1) else (0 : Int)), V.int r88.1]))
      have h31 := h31.mono S101
      have hl64 := hl64.mono S101
      have S59 := S59.trans S101
      have hl95 := hl95.mono S101
      have hl104 := hl104.mono S101
      have h103 := R.lst (a := Int) h102 hl104
      obtain ⟨p105, w106, e107, h108, hl109⟩ := R.lst_ h103
      cases e107
      obtain ⟨y110, e111, hk⟩ := wp_opt hk
      obtain ⟨w112, e113, r114⟩ := hl109.atI e111
      obtain rfl := R.int_ r114
      obtain ⟨p115, w116, e117, h118, hl119⟩ := R.lst_ h31
      cases e117
      obtain ⟨y120, e121, hk⟩ := wp_opt hk
      obtain ⟨w122, e123, r124⟩ := hl119.atI e121
      obtain rfl := R.int_ r124
      obtain ⟨p125, w126, e127, h128, hl129⟩ := R.lst_ h31
      cases e127
      obtain ⟨y130, e131, hk⟩ := wp_opt hk
      obtain ⟨w132, e133, r134⟩ := hl129.atI e131
      obtain rfl := R.int_ r134
      refine ⟨_, rfl, _, _, _, _, rfl, rfl, (SqLF O100.s h108), e113, _, rfl, _, rfl, _, _, _, _, rfl, rfl, (SqLF O100.s h118), e123, _, rfl, _, rfl, _, _, _, _, rfl, rfl, (SqLF O100.s h128), e133, (by show 2 ≤ sizeLine; decide), fun p135 hp136 => ?_⟩
      have hl142 : RL (a := Int) F99 ([V.int y120, V.int y130]) ([y120, y130]) := RL.cons R.int (RL.cons R.int RL.nil)
      obtain ⟨F137, O138, S139, h140⟩ := O100.putE hp136 (.lst ([V.int y120, V.int y130]))
      have h31 := h31.mono S139
      have hl64 := hl64.mono S139
      have S59 := S59.trans S139
      have hl95 := hl95.mono S139
      have h103 := h103.mono S139
      have h108 := S139 _ _ h108
      have hl109 := hl109.mono S139
      have h118 := S139 _ _ h118
      have hl119 := hl119.mono S139
      have h128 := S139 _ _ h128
      have hl129 := hl129.mono S139
      have hl142 := hl142.mono S139
      have h141 := R.lst (a := Int) h140 hl142
      obtain ⟨p143, w144, e145, h146, hl147⟩ := R.lst_ h141
      cases e145
      refine ⟨_, _, _, rfl, (O138.s _ _ h146), (RL.mono hl147 O138.s), fun p148 hp149 => ?_⟩
      have hl155 : RL (a := Int) F137 (sortV w144 ([y120, y130])) (sortT ([y120, y130])) := (RL.sorted hl147)
      obtain ⟨F150, O151, S152, h153⟩ := O138.putE hp149 (.lst (sortV w144 ([y120, y130])))
      have h31 := h31.mono S152
      have hl64 := hl64.mono S152
      have S59 := S59.trans S152
      have hl95 := hl95.mono S152
      have h103 := h103.mono S152
      have h108 := S152 _ _ h108
      have hl109 := hl109.mono S152
      have h118 := S152 _ _ h118
      have hl119 := hl119.mono S152
      have h128 := S152 _ _ h128
      have hl129 := hl129.mono S152
      have h141 := h141.mono S152
      have h146 := S152 _ _ h146
      have hl147 := hl147.mono S152
      have hl155 := hl155.mono S152
      have h154 := R.lst (a := Int) h153 hl155
      obtain ⟨p156, w157, e158, h159, hl160⟩ := R.lst_ h154
      cases e158
      obtain ⟨y161, e162, hk⟩ := wp_opt hk
      obtain ⟨w163, e164, r165⟩ := hl160.atI e162
      obtain rfl := R.int_ r165
      obtain ⟨p166, w167, e168, h169, hl170⟩ := R.lst_ h154
      cases e168
      obtain ⟨y171, e172, hk⟩ := wp_opt hk
      obtain ⟨w173, e174, r175⟩ := hl170.atI e172
      obtain rfl := R.int_ r175
      refine ⟨_, rfl, (.inl ⟨rfl, _, SqL.of (O151.at 0 rfl)⟩), _, rfl, _, _, _, _, rfl, rfl, (SqLF O151.s h159), e164, _, rfl, _, _, _, _, rfl, rfl, (SqLF O151.s h169), e174, _, rfl, _, rfl, _, _, _, _, _, rfl, (O151.pre1 1 rfl), hl95, wp_call hk (fun r176 er177 hk F178 H179 w181 g180 h182 hl183 => ?_) (fun n hn C H1 hC kp => hn C H1 hC (O151.kp1 kp 1 rfl))⟩
      have O184 := O151.call1 g180 1 rfl h182
      have S_ := g180.f
      have h31 := h31.mono S_
      have hl64 := hl64.mono S_
      have S59 := S59.trans S_
      have h103 := h103.mono S_
      have h108 := S_ _ _ h108
      have hl109 := hl109.mono S_
      have h118 := S_ _ _ h118
      have hl119 := hl119.mono S_
      have h128 := S_ _ _ h128
      have hl129 := hl129.mono S_
      have h141 := h141.mono S_
      have h146 := S_ _ _ h146
      have hl147 := hl147.mono S_
      have h154 := h154.mono S_
      have h159 := S_ _ _ h159
      have hl160 := hl160.mono S_
      have h169 := S_ _ _ h169
      have hl170 := hl170.mono S_
      refine ⟨(by show 3 ≤ sizeLine; decide), fun p185 hp186 => ?_⟩
      obtain ⟨F187, O188, S189, h190⟩ := O184.putE hp186 (.tup [V.int y161, V.int y171, V.int r176.1])
      have h31 := h31.mono S189
      have hl64 := hl64.mono S189
      have S59 := S59.trans S189
      have h103 := h103.mono S189
      have h108 := S189 _ _ h108
      have hl109 := hl109.mono S189
      have h118 := S189 _ _ h118
      have hl119 := hl119.mono S189
      have h128 := S189 _ _ h128
      have hl129 := hl129.mono S189
      have h141 := h141.mono S189
      have h146 := S189 _ _ h146
      have hl147 := hl147.mono S189
      have h154 := h154.mono S189
      have h159 := S189 _ _ h159
      have hl160 := hl160.mono S189
      have h169 := S189 _ _ h169
      have hl170 := hl170.mono S189
      have hl183 := hl183.mono S189
      have h191 : R (a := (T3 Int Int Int)) F187 (.ref p185) (T3.mk y161 y171 r176.1) := R.t3 h190 R.int R.int R.int
      obtain ⟨c192, hk⟩ := wp_appL hk
      refine ⟨_, _, _, rfl, rfl, (O188.at 0 rfl), (by rw [hl64.len]; exact c192), ?_⟩
      have O194 := O188.set 0 (.lst (w62 ++ [V.ref p185])) rfl
      have hl195 : RL (a := (T3 Int Int Int)) F187 (w62 ++ [V.ref p185]) (st60.2 ++ [(T3.mk y161 y171 r176.1)]) := RL.snoc hl64 h191
      exact ⟨F187, (r176.2, (st60.2 ++ [(T3.mk y161 y171 r176.1)])), w181, (w62 ++ [V.ref p185]), some (V.int y47), some (V.int y110), some (V.ref p148), rfl, S59, O194, hl183, hl195, hk⟩
    rintro sg196 H197 ⟨F208, st199, w201, w202, t205, t206, t207, rfl, S198, O209, hl203, hl204, hL200⟩
    rw [rangeL_end] at hL200
    have hk := hLd53 _ hL200
    have h31 := h31.mono S198
    obtain ⟨c211, hk⟩ := wp_chk hk
    obtain ⟨c216, L212, hL213, hLs214, hLd215⟩ := compS_L hk
    refine ⟨_, rfl, _, rfl, c211.lo, c211.hi, fun p217 hp218 => ?_⟩
    have z243 := O209.was hp218
    refine lc_range (lo := 0) (n := (((1 : Int) + r1.1)).toNat) (fun i H => ∃ (F_ : Hp) (st : (List Int)) (acc : List Int) (wa : List V) (w_0 : (List V)), Same F208 F_ ∧ Ow _ F_ [(p217, .lst wa), (p42, .lst w202), (a_deck, .lst w_0)] H ∧ RL F_ wa acc ∧ RL (a := Int) F_ w_0 st ∧ wa.length ≤ i ∧ L212 (List.drop i (rangeL 0 ((1 : Int) + r1.1))) acc st) ⟨F208, st199.1, [], [], w201, Same.refl _, O209.new hp218, RL.nil, hl203, Nat.zero_le _, hL213⟩ ?_ ?_
    · rintro i219 H221 hi222 ⟨F227, st228, acc224, wa225, w230, S229, O233, hl232, hl231, la226, hL213⟩
      have h31 := h31.mono S229
      have hl204 := hl204.mono S229
      rw [rangeL_get0 hi222] at hL213
      have hk := hLs214 _ _ _ _ hL213
      obtain ⟨y210, he_⟩ : ∃ z_, z_ = 0 + (i219 : Int) := ⟨_, rfl⟩
      try rw [← he_] at hk
      rw [← he_]
      refine ⟨rfl, ?_⟩
      refine ⟨_, rfl, _, rfl, _, _, _, _, _, rfl, (O233.pre1 2 rfl), hl231, wp_call hk (fun r234 er235 hk F236 H237 w239 g238 h240 hl241 => ?_) (fun n hn => hn.elim)⟩
      have O242 := O233.call1 g238 2 rfl h240
      have S_ := g238.f
      have h31 := h31.mono S_
      have hl204 := hl204.mono S_
      have S229 := S229.trans S_
      have hl232 := hl232.mono S_
      refine ⟨_, (O242.at 0 rfl), (comp_lenR la226 hi222 (by rw [Int.sub_zero]) c216), ?_⟩
      exact ⟨F236, r234.2, acc224 ++ [r234.1], wa225 ++ [V.int r234.1], w239, S229, O242.set 0 (.lst (wa225 ++ [V.int r234.1])) rfl, RL.snoc hl232 R.int, hl241, by rw [List.length_append]; exact Nat.succ_le_succ la226, hk⟩
    rintro H244 ⟨F245, st246, acc247, wa248, w254, S249, O250, hl251, hl255, la252, hL253⟩
    rw [rangeL_end0] at hL253
    have hk := hLd215 _ _ hL253
    have h31 := h31.mono S249
    have hl204 := hl204.mono S249
    obtain ⟨F257, O258, S259, h260⟩ := O250.frzE 0 rfl z243
    have h31 := h31.mono S259
    have hl204 := hl204.mono S259
    have hl255 := hl255.mono S259
    have hl251 := hl251.mono S259
    have h261 := R.lst (a := Int) h260 hl251
    refine ⟨_, rfl, _, _, _, rfl, (O258.at 0 rfl), (RL.mono hl204 O258.s), fun p262 hp263 => ?_⟩
    have hl269 : RL (a := (T3 Int Int Int)) F257 (sortV w202 st199.2) (sortT st199.2) := (RL.sorted hl204)
    obtain ⟨F264, O265, S266, h267⟩ := O258.putE hp263 (.lst (sortV w202 st199.2))
    have h31 := h31.mono S266
    have hl204 := hl204.mono S266
    have hl255 := hl255.mono S266
    have h261 := h261.mono S266
    have hl269 := hl269.mono S266
    have h268 := R.lst (a := (T3 Int Int Int)) h267 hl269
    refine ⟨(by show 2 ≤ sizeLine; decide), fun p270 hp271 => ?_⟩
    obtain ⟨F272, O273, S274, h275⟩ := O265.putE hp271 (.tup [V.ref p217, V.ref p262])
    have h31 := h31.mono S274
    have hl204 := hl204.mono S274
    have hl255 := hl255.mono S274
    have h261 := h261.mono S274
    have h268 := h268.mono S274
    have h276 : R (a := ((List Int) × (List (T3 Int Int Int)))) F272 (.ref p270) (acc247, (sortT st199.2)) := R.t2 h275 h261 h268
    exact hk _ _ w254 O273.g (O273.at 1 rfl) hl255 _ h276
abbrev s_law_leaf : Stmt := top 49
theorem sc_law_leaf : FnScope ["deck", "leaves", "many", "way"] ["deck", "leaves", "many"] (defScope s_law_leaf) := ⟨rfl, rfl, rfl, by decide +kernel, rfl, by decide +kernel, by decide +kernel⟩
def m_law_leaf (x_deck : (List Int)) (x_leaves : (List Str)) (x_many : Int) : M (Sm × (List Int)) :=
m_law_take x_deck ((1 : Int) + (x_leaves.length : Int)) >>= fun r6 =>
if r6.1 = (0 : Int) then (
m_law_take r6.2 (19 : Int) >>= fun r16 =>
.ok ((Sm.num (("number" : Str), (r16.1 - (9 : Int))).1 (("number" : Str), (r16.1 - (9 : Int))).2), r16.2))
else (
opt (atI x_leaves (r6.1 - (1 : Int))) >>= fun y37 =>
if y37 ∈ ([(("so" : Str), ("more" : Str)).1, (("so" : Str), ("more" : Str)).2]) then (
opt (atI x_leaves (r6.1 - (1 : Int))) >>= fun y62 =>
m_law_take r6.2 x_many >>= fun r67 =>
.ok ((Sm.num (y62, r67.1).1 (y62, r67.1).2), r67.2))
else (
opt (atI x_leaves (r6.1 - (1 : Int))) >>= fun y88 =>
.ok ((Sm.nam y88), r6.2)))
def sp_law_leaf (mg : Str → Option Value) : Sp := fun vs H Q E => ∃ (F : Hp) (a_deck : Addr) (w_deck : (List V)) (x_deck : (List Int)) (v_leaves : V) (x_leaves : (List Str)) (x_many : Int), vs = [.ref a_deck, v_leaves, V.int x_many] ∧ Pre F [(a_deck, .lst w_deck)] H ∧ RL (a := Int) F w_deck x_deck ∧ R (a := (List Str)) F v_leaves x_leaves ∧
  wp (m_law_leaf x_deck x_leaves x_many) (fun r => ∀ (F' H' : Hp) (w0 : (List V)), Gr [a_deck] F H F' H' → H' a_deck = some (.lst w0) → RL (a := Int) F' w0 r.2 → ∀ v : V, R (a := Sm) F' v r.1 → Q v H')
  (fun n => ∀ (C : Addr) (H' : Hp), mg (Str.ofString n) = some (.ref C) → Kp [a_deck] H H' → E (.ref C) none H')
set_option maxHeartbeats 2000000 in
theorem ok_law_leaf (nb : Nb mg) (C_law_take : Ca P w K mg base "_law_take" 1 ["deck", "many"] (sp_law_take mg)) (D : Df K mg "_law_leaf" "_law_leaf" s_law_leaf ["deck", "leaves", "many"]) : Ca P w K mg base "_law_leaf" 2 ["deck", "leaves", "many"] (sp_law_leaf mg) := by
  obtain ⟨fa_law_take, fd_law_take, G_law_take, M_law_take, K_law_take, B_law_take⟩ := C_law_take.ex
  refine Ca.mk' D sc_law_leaf (fun vs H Q E h => ?_) (fun q_ f_ cdv A outer s H vs Q E hr h => ?_)
  · obtain ⟨F, _, _, _, _, _, _, rfl, _⟩ := h
    rfl
  · obtain ⟨F, a_deck, w_deck, x_deck, v_leaves, x_leaves, x_many, rfl, P0, f_deck, f_leaves, hk⟩ := h
    have nd := sc_law_leaf.nd
    have hu64 := hr.units
    have hu128 := hu128_of hr
    have O := P0.start
    refine ⟨_, (pss_cons (ps_set (i := 3) nd rfl (Or.inl rfl) (pe_call G_law_take (hr.mono (by decide)) rfl M_law_take K_law_take B_law_take .nil (passes_call (takes_of rfl rfl rfl rfl) fun _ _ _ _ h => h) (pa_cons (pv 0) (pa_cons (pe_op op_add pe_int (pe_callB call_lenT (by rfl) nb.b_len PySem.boot_len (pa_cons (pv 1) pa_nil))) pa_nil))))
  (pss_cons (ps_if (pt_cmpR (op_eqT Int hu64) (pv 3) pe_int (nomark _)) (pss_one (ps_ret (pe_tup (pa_cons pe_str (pa_cons (pe_op op_sub (pe_call G_law_take (hr.mono (by decide)) rfl M_law_take K_law_take B_law_take .nil (passes_call (takes_of rfl rfl rfl rfl) fun _ _ _ _ h => h) (pa_cons (pv 0) (pa_cons pe_int pa_nil))) pe_int) pa_nil))))) pss_nil)
  (pss_cons (ps_if (pt_cmpR (op_inT Str hu64) (pe_ix (ixListK (K := K) rfl) (pv 1) (pe_op op_sub (pv 3) pe_int) (fun _ _ => rfl)) (pe_tup (pa_cons pe_str (pa_cons pe_str pa_nil))) rfl) (pss_one (ps_ret (pe_tup (pa_cons (pe_ix (ixListK (K := K) rfl) (pv 1) (pe_op op_sub (pv 3) pe_int) (fun _ _ => rfl)) (pa_cons (pe_call G_law_take (hr.mono (by decide)) rfl M_law_take K_law_take B_law_take .nil (passes_call (takes_of rfl rfl rfl rfl) fun _ _ _ _ h => h) (pa_cons (pv 0) (pa_cons (pv 2) pa_nil))) pa_nil))))) pss_nil)
  (pss_one (ps_ret (pe_tup (pa_cons (pe_ix (ixListK (K := K) rfl) (pv 1) (pe_op op_sub (pv 3) pe_int) (fun _ _ => rfl)) pa_nil))))))), ?_⟩
    obtain ⟨p1, w2, e3, h4, hl5⟩ := R.lst_ f_leaves
    cases e3
    refine ⟨_, rfl, _, rfl, _, _, _, rfl, (.inl (O.s _ _ h4)), hl5.len, _, _, rfl, rfl, _, _, _, _, _, rfl, (O.pre1 0 rfl), f_deck, wp_call hk (fun r6 er7 hk F8 H9 w11 g10 h12 hl13 => ?_) (fun n hn C H1 hC kp => hn C H1 hC (O.kp1 kp 0 rfl))⟩
    have O14 := O.call1 g10 0 rfl h12
    have S_ := g10.f
    have f_leaves := f_leaves.mono S_
    have h4 := S_ _ _ h4
    have hl5 := hl5.mono S_
    refine ⟨_, rfl, _, _, R.int, R.int, _, rfl, ?_⟩
    refine iteD (fun q15 => ?_) (fun q15 => ?_)
    · have hk := wp_if hk q15
      refine ⟨_, rfl, _, _, _, _, _, rfl, (O14.pre1 0 rfl), hl13, wp_call hk (fun r16 er17 hk F18 H19 w21 g20 h22 hl23 => ?_) (fun n hn C H1 hC kp => hn C H1 hC (O14.kp1 kp 0 rfl))⟩
      have O24 := O14.call1 g20 0 rfl h22
      have S_ := g20.f
      have f_leaves := f_leaves.mono S_
      have h4 := S_ _ _ h4
      have hl5 := hl5.mono S_
      refine ⟨_, _, rfl, rfl, (by show 2 ≤ sizeLine; decide), fun p25 hp26 => ?_⟩
      obtain ⟨F27, O28, S29, h30⟩ := O24.putE hp26 (.tup [V.str ("number" : Str), V.int (r16.1 - (9 : Int))])
      have f_leaves := f_leaves.mono S29
      have h4 := S29 _ _ h4
      have hl5 := hl5.mono S29
      have hl23 := hl23.mono S29
      have h31 : R (a := (Str × Int)) F27 (.ref p25) (("number" : Str), (r16.1 - (9 : Int))) := R.t2 h30 R.str R.int
      exact hk _ _ w21 O28.g (O28.at 0 rfl) hl23 _ (R.of_num h31)
    · have hk := wp_el hk q15
      obtain ⟨p32, w33, e34, h35, hl36⟩ := R.lst_ f_leaves
      cases e34
      obtain ⟨y37, e38, hk⟩ := wp_opt hk
      obtain ⟨w39, e40, r41⟩ := hl36.atI e38
      obtain rfl := R.str_ r41
      refine ⟨_, rfl, _, rfl, _, _, rfl, rfl, _, _, _, _, rfl, rfl, (SqLF O14.s h35), e40, (by show 2 ≤ sizeLine; decide), fun p42 hp43 => ?_⟩
      obtain ⟨F44, O45, S46, h47⟩ := O14.putE hp43 (.tup [V.str ("so" : Str), V.str ("more" : Str)])
      have f_leaves := f_leaves.mono S46
      have h4 := S46 _ _ h4
      have hl5 := hl5.mono S46
      have hl13 := hl13.mono S46
      have h35 := S46 _ _ h35
      have hl36 := hl36.mono S46
      have h48 : R (a := (Str × Str)) F44 (.ref p42) (("so" : Str), ("more" : Str)) := R.t2 h47 R.str R.str
      obtain ⟨p49, v52, v53, e50, h51, r54, r55⟩ := R.t2_ h48
      cases e50
      obtain rfl := R.str_ r54
      obtain rfl := R.str_ r55
      refine ⟨_, _, _, _, R.str, rfl, (.inr (O45.s _ _ h51)), (RL.mono (RL.cons R.str (RL.cons R.str RL.nil)) O45.s), _, rfl, ?_⟩
      refine iteD (fun q56 => ?_) (fun q56 => ?_)
      · have hk := wp_if hk q56
        obtain ⟨p57, w58, e59, h60, hl61⟩ := R.lst_ f_leaves
        cases e59
        obtain ⟨y62, e63, hk⟩ := wp_opt hk
        obtain ⟨w64, e65, r66⟩ := hl61.atI e63
        obtain rfl := R.str_ r66
        refine ⟨_, rfl, _, rfl, _, _, rfl, rfl, _, _, _, _, rfl, rfl, (SqLF O45.s h60), e65, _, rfl, _, rfl, _, _, _, _, _, rfl, (O45.pre1 0 rfl), hl13, wp_call hk (fun r67 er68 hk F69 H70 w72 g71 h73 hl74 => ?_) (fun n hn C H1 hC kp => hn C H1 hC (O45.kp1 kp 0 rfl))⟩
        have O75 := O45.call1 g71 0 rfl h73
        have S_ := g71.f
        have f_leaves := f_leaves.mono S_
        have h4 := S_ _ _ h4
        have hl5 := hl5.mono S_
        have h35 := S_ _ _ h35
        have hl36 := hl36.mono S_
        have h48 := h48.mono S_
        have h51 := S_ _ _ h51
        have h60 := S_ _ _ h60
        have hl61 := hl61.mono S_
        refine ⟨(by show 2 ≤ sizeLine; decide), fun p76 hp77 => ?_⟩
        obtain ⟨F78, O79, S80, h81⟩ := O75.putE hp77 (.tup [V.str y62, V.int r67.1])
        have f_leaves := f_leaves.mono S80
        have h4 := S80 _ _ h4
        have hl5 := hl5.mono S80
        have h35 := S80 _ _ h35
        have hl36 := hl36.mono S80
        have h48 := h48.mono S80
        have h51 := S80 _ _ h51
        have h60 := S80 _ _ h60
        have hl61 := hl61.mono S80
        have hl74 := hl74.mono S80
        have h82 : R (a := (Str × Int)) F78 (.ref p76) (y62, r67.1) := R.t2 h81 R.str R.int
        exact hk _ _ w72 O79.g (O79.at 0 rfl) hl74 _ (R.of_num h82)
      · have hk := wp_el hk q56
        obtain ⟨p83, w84, e85, h86, hl87⟩ := R.lst_ f_leaves
        cases e85
        obtain ⟨y88, e89, hk⟩ := wp_opt hk
        obtain ⟨w90, e91, r92⟩ := hl87.atI e89
        obtain rfl := R.str_ r92
        refine ⟨_, rfl, _, rfl, _, _, rfl, rfl, _, _, _, _, rfl, rfl, (SqLF O45.s h86), e91, (by show 1 ≤ sizeLine; decide), fun p93 hp94 => ?_⟩
        obtain ⟨F95, O96, S97, h98⟩ := O45.putE hp94 (.tup [V.str y88])
        have f_leaves := f_leaves.mono S97
        have h4 := S97 _ _ h4
        have hl5 := hl5.mono S97
        have hl13 := hl13.mono S97
        have h35 := S97 _ _ h35
        have hl36 := hl36.mono S97
        have h48 := h48.mono S97
        have h51 := S97 _ _ h51
        have h86 := S97 _ _ h86
        have hl87 := hl87.mono S97
        have h99 := R.of_nam h98
        exact hk _ _ w11 O96.g (O96.at 0 rfl) hl13 _ h99
abbrev s_law_sum : Stmt := top 50
theorem sc_law_sum : FnScope ["deck", "leaves", "many", "deep", "times", "way", "one", "other"] ["deck", "leaves", "many", "deep", "times"] (defScope s_law_sum) := ⟨rfl, rfl, rfl, by decide +kernel, rfl, by decide +kernel, by decide +kernel⟩
def m_law_sum : Nat → (List Int) → (List Str) → Int → Int → Bool → M (Sm × (List Int))
  | 0, _, _, _, _, _ => bad
  | k_ + 1, x_deck, x_leaves, x_many, x_deep, x_times =>
    m_law_take x_deck (7 : Int) >>= fun r1 =>
    if x_deep = (0 : Int) then (
    m_law_leaf r1.2 x_leaves x_many >>= fun r11 =>
    .ok (r11.1, r11.2))
    else (
    if r1.1 < (2 : Int) then (
    m_law_leaf r1.2 x_leaves x_many >>= fun r23 =>
    .ok (r23.1, r23.2))
    else (
    if r1.1 = (6 : Int) then (
    if x_times = true then (
    m_law_leaf r1.2 (cutL x_leaves (some (-(1 : Int))) none) x_many >>= fun r49 =>
    m_law_leaf r49.2 ([] : List Str) (1 : Int) >>= fun r68 =>
    m_law_leaf r68.2 (cutL x_leaves none (some (1 : Int))) x_many >>= fun r92 =>
    m_law_take r92.2 (2 : Int) >>= fun r111 =>
    opt (atI ([r68.1, r92.1]) r111.1) >>= fun y125 =>
    .ok ((Sm.two (T3.mk ("times" : Str) y125 r49.1).a (T3.mk ("times" : Str) y125 r49.1).b (T3.mk ("times" : Str) y125 r49.1).c), r111.2))
    else (
    m_law_sum k_ r1.2 x_leaves x_many (x_deep - (1 : Int)) x_times >>= fun r137 =>
    opt (atI ([("plus" : Str), ("less" : Str), ("most" : Str), ("least" : Str), ("plus" : Str)]) (r1.1 - (2 : Int))) >>= fun y161 =>
    m_law_sum k_ r137.2 x_leaves x_many (x_deep - (1 : Int)) x_times >>= fun r166 =>
    .ok ((Sm.two (T3.mk y161 r137.1 r166.1).a (T3.mk y161 r137.1 r166.1).b (T3.mk y161 r137.1 r166.1).c), r166.2)))
    else (
    m_law_sum k_ r1.2 x_leaves x_many (x_deep - (1 : Int)) x_times >>= fun r184 =>
    opt (atI ([("plus" : Str), ("less" : Str), ("most" : Str), ("least" : Str), ("plus" : Str)]) (r1.1 - (2 : Int))) >>= fun y208 =>
    m_law_sum k_ r184.2 x_leaves x_many (x_deep - (1 : Int)) x_times >>= fun r213 =>
    .ok ((Sm.two (T3.mk y208 r184.1 r213.1).a (T3.mk y208 r184.1 r213.1).b (T3.mk y208 r184.1 r213.1).c), r213.2))))
def sp_law_sum (k_ : Nat) (mg : Str → Option Value) : Sp := fun vs H Q E => ∃ (F : Hp) (a_deck : Addr) (w_deck : (List V)) (x_deck : (List Int)) (v_leaves : V) (x_leaves : (List Str)) (x_many : Int) (x_deep : Int) (x_times : Bool), vs = [.ref a_deck, v_leaves, V.int x_many, V.int x_deep, V.bl x_times] ∧ Pre F [(a_deck, .lst w_deck)] H ∧ RL (a := Int) F w_deck x_deck ∧ R (a := (List Str)) F v_leaves x_leaves ∧
  wp (m_law_sum k_ x_deck x_leaves x_many x_deep x_times) (fun r => ∀ (F' H' : Hp) (w0 : (List V)), Gr [a_deck] F H F' H' → H' a_deck = some (.lst w0) → RL (a := Int) F' w0 r.2 → ∀ v : V, R (a := Sm) F' v r.1 → Q v H')
  (fun n => ∀ (C : Addr) (H' : Hp), mg (Str.ofString n) = some (.ref C) → Kp [a_deck] H H' → E (.ref C) none H')
set_option maxHeartbeats 2000000 in
theorem ok_law_sum (nb : Nb mg) (C_law_leaf : Ca P w K mg base "_law_leaf" 2 ["deck", "leaves", "many"] (sp_law_leaf mg)) (C_law_take : Ca P w K mg base "_law_take" 1 ["deck", "many"] (sp_law_take mg)) (D : Df K mg "_law_sum" "_law_sum" s_law_sum ["deck", "leaves", "many", "deep", "times"]) : ∀ k_ : Nat, Ca P w K mg base "_law_sum" (k_ + 3) ["deck", "leaves", "many", "deep", "times"] (sp_law_sum k_ mg) := by
  intro k_
  induction k_ with
  | zero =>
    refine Ca.mk' D sc_law_sum (fun vs H Q E h => ?_) (fun q_ f_ cdv A outer s H vs Q E hr h => ?_)
    · obtain ⟨F, _, _, _, _, _, _, _, _, rfl, _⟩ := h
      rfl
    · obtain ⟨F, _, _, _, _, _, _, _, _, rfl, _, _, _, hk⟩ := h
      exact hk.elim
  | succ k_ ih_ =>
    have C_law_sum := ih_
    obtain ⟨fa_law_leaf, fd_law_leaf, G_law_leaf, M_law_leaf, K_law_leaf, B_law_leaf⟩ := C_law_leaf.ex
    obtain ⟨fa_law_take, fd_law_take, G_law_take, M_law_take, K_law_take, B_law_take⟩ := C_law_take.ex
    obtain ⟨fa_law_sum, fd_law_sum, G_law_sum, M_law_sum, K_law_sum, B_law_sum⟩ := C_law_sum.ex
    refine Ca.mk' D sc_law_sum (fun vs H Q E h => ?_) (fun q_ f_ cdv A outer s H vs Q E hr h => ?_)
    · obtain ⟨F, _, _, _, _, _, _, _, _, rfl, _⟩ := h
      rfl
    · obtain ⟨F, a_deck, w_deck, x_deck, v_leaves, x_leaves, x_many, x_deep, x_times, rfl, P0, f_deck, f_leaves, hk⟩ := h
      have nd := sc_law_sum.nd
      have hu64 := hr.units
      have hu128 := hu128_of hr
      have O := P0.start
      refine ⟨_, (pss_cons (ps_set (i := 5) nd rfl (Or.inl rfl) (pe_call G_law_take (hr.mono (by omega)) rfl M_law_take K_law_take B_law_take .nil (passes_call (takes_of rfl rfl rfl rfl) fun _ _ _ _ h => h) (pa_cons (pv 0) (pa_cons pe_int pa_nil))))
  (pss_cons (ps_if (PW.pt (pw_or (pt_cmpR (op_eqT Int hu64) (pv 3) pe_int (nomark _)) (pw_or1 (pt_cmpR op_lt (pv 5) pe_int (nomark _))))) (pss_one (ps_ret (pe_call G_law_leaf (hr.mono (by omega)) rfl M_law_leaf K_law_leaf B_law_leaf .nil (passes_call (takes_of rfl rfl rfl rfl) fun _ _ _ _ h => h) (pa_cons (pv 0) (pa_cons (pv 1) (pa_cons (pv 2) pa_nil)))))) pss_nil)
  (pss_cons (ps_if (PW.pt (pw_and (pt_cmpR (op_eqT Int hu64) (pv 5) pe_int (nomark _)) (pw_and1 (pt_val (pv 4))))) (pss_cons (ps_set (i := 7) nd rfl (Or.inl rfl) (pe_call G_law_leaf (hr.mono (by omega)) rfl M_law_leaf K_law_leaf B_law_leaf .nil (passes_call (takes_of rfl rfl rfl rfl) fun _ _ _ _ h => h) (pa_cons (pv 0) (pa_cons (pe_slice (slListK (K := K) rfl) (pv 1) (po_some (pe_un un_neg pe_int)) po_none) (pa_cons (pv 2) pa_nil)))))
  (pss_one (ps_ret (pe_tup (pa_cons pe_str (pa_cons (pe_ix (ixListK (K := K) rfl) (pe_lst (pa_cons (pe_call G_law_leaf (hr.mono (by omega)) rfl M_law_leaf K_law_leaf B_law_leaf .nil (passes_call (takes_of rfl rfl rfl rfl) fun _ _ _ _ h => h) (pa_cons (pv 0) (pa_cons (pe_lst pa_nil) (pa_cons pe_int pa_nil)))) (pa_cons (pe_call G_law_leaf (hr.mono (by omega)) rfl M_law_leaf K_law_leaf B_law_leaf .nil (passes_call (takes_of rfl rfl rfl rfl) fun _ _ _ _ h => h) (pa_cons (pv 0) (pa_cons (pe_slice (slListK (K := K) rfl) (pv 1) po_none (po_some pe_int)) (pa_cons (pv 2) pa_nil)))) pa_nil))) (pe_call G_law_take (hr.mono (by omega)) rfl M_law_take K_law_take B_law_take .nil (passes_call (takes_of rfl rfl rfl rfl) fun _ _ _ _ h => h) (pa_cons (pv 0) (pa_cons pe_int pa_nil))) (fun _ _ => rfl)) (pa_cons (pv 7) pa_nil))))))) pss_nil)
  (pss_cons (ps_set (i := 6) nd rfl (Or.inl rfl) (pe_call G_law_sum (hr.mono (by omega)) rfl M_law_sum K_law_sum B_law_sum .nil (passes_call (takes_of rfl rfl rfl rfl) fun _ _ _ _ h => h) (pa_cons (pv 0) (pa_cons (pv 1) (pa_cons (pv 2) (pa_cons (pe_op op_sub (pv 3) pe_int) (pa_cons (pv 4) pa_nil)))))))
  (pss_one (ps_ret (pe_tup (pa_cons (pe_ix (ixListK (K := K) rfl) (pe_lst (pa_cons pe_str (pa_cons pe_str (pa_cons pe_str (pa_cons pe_str (pa_cons pe_str pa_nil)))))) (pe_op op_sub (pv 5) pe_int) (fun _ _ => rfl)) (pa_cons (pv 6) (pa_cons (pe_call G_law_sum (hr.mono (by omega)) rfl M_law_sum K_law_sum B_law_sum .nil (passes_call (takes_of rfl rfl rfl rfl) fun _ _ _ _ h => h) (pa_cons (pv 0) (pa_cons (pv 1) (pa_cons (pv 2) (pa_cons (pe_op op_sub (pv 3) pe_int) (pa_cons (pv 4) pa_nil)))))) pa_nil)))))))))), ?_⟩
      refine ⟨_, rfl, _, _, _, _, _, rfl, (O.pre1 0 rfl), f_deck, wp_call hk (fun r1 er2 hk F3 H4 w6 g5 h7 hl8 => ?_) (fun n hn C H1 hC kp => hn C H1 hC (O.kp1 kp 0 rfl))⟩
      have O9 := O.call1 g5 0 rfl h7
      have S_ := g5.f
      have f_leaves := f_leaves.mono S_
      refine ⟨_, rfl, _, _, R.int, R.int, _, rfl, ?_⟩
      refine iteD (fun q10 => ?_) (fun q10 => ?_)
      · have hk := wp_if hk q10
        refine iteT ?_
        refine ⟨_, rfl, _, rfl, _, rfl, _, _, _, _, _, _, _, rfl, (O9.pre1 0 rfl), hl8, f_leaves, wp_call hk (fun r11 er12 hk F13 H14 w16 g15 h17 hl18 v19 r20 => ?_) (fun n hn C H1 hC kp => hn C H1 hC (O9.kp1 kp 0 rfl))⟩
        have O21 := O9.call1 g15 0 rfl h17
        have S_ := g15.f
        have f_leaves := f_leaves.mono S_
        exact hk _ _ w16 O21.g (O21.at 0 rfl) hl18 _ r20
      · have hk := wp_el hk q10
        refine ⟨_, rfl, _, _, rfl, rfl, _, rfl, ?_⟩
        refine iteD (fun q22 => ?_) (fun q22 => ?_)
        · have hk := wp_if hk q22
          refine ⟨_, rfl, _, rfl, _, rfl, _, _, _, _, _, _, _, rfl, (O9.pre1 0 rfl), hl8, f_leaves, wp_call hk (fun r23 er24 hk F25 H26 w28 g27 h29 hl30 v31 r32 => ?_) (fun n hn C H1 hC kp => hn C H1 hC (O9.kp1 kp 0 rfl))⟩
          have O33 := O9.call1 g27 0 rfl h29
          have S_ := g27.f
          have f_leaves := f_leaves.mono S_
          exact hk _ _ w28 O33.g (O33.at 0 rfl) hl30 _ r32
        · have hk := wp_el hk q22
          refine ⟨_, rfl, _, _, R.int, R.int, _, rfl, ?_⟩
          refine iteD (fun q34 => ?_) (fun q34 => ?_)
          · have hk := wp_if hk q34
            refine ⟨_, rfl, _, rfl, ?_⟩
            refine iteB (fun q35 => ?_) (fun q35 => ?_)
            · have hk := wp_if hk q35
              obtain ⟨p36, w37, e38, h39, hl40⟩ := R.lst_ f_leaves
              cases e38
              refine ⟨_, rfl, _, rfl, _, rfl, _, rfl, _, _, rfl, (SqLF O9.s h39), fun p41 hp42 => ?_⟩
              have hl48 : RL (a := Str) F3 (cutV w37 (some (-(1 : Int))) none) (cutL x_leaves (some (-(1 : Int))) none) := RL.cutL hl40 (some (-(1 : Int))) none
              obtain ⟨F43, O44, S45, h46⟩ := O9.putE hp42 (.lst (cutV w37 (some (-(1 : Int))) none))
              have f_leaves := f_leaves.mono S45
              have hl8 := hl8.mono S45
              have h39 := S45 _ _ h39
              have hl40 := hl40.mono S45
              have hl48 := hl48.mono S45
              have h47 := R.lst (a := Str) h46 hl48
              refine ⟨_, rfl, _, _, _, _, _, _, _, rfl, (O44.pre1 0 rfl), hl8, h47, wp_call hk (fun r49 er50 hk F51 H52 w54 g53 h55 hl56 v57 r58 => ?_) (fun n hn C H1 hC kp => hn C H1 hC (O44.kp1 kp 0 rfl))⟩
              have O59 := O44.call1 g53 0 rfl h55
              have S_ := g53.f
              have f_leaves := f_leaves.mono S_
              have h39 := S_ _ _ h39
              have hl40 := hl40.mono S_
              have h47 := h47.mono S_
              refine ⟨_, rfl, (by show 0 ≤ sizeLine; decide), fun p60 hp61 => ?_⟩
              have hl67 : RL (a := Str) F51 ([]) ([] : List Str) := RL.nil
              obtain ⟨F62, O63, S64, h65⟩ := O59.putE hp61 (.lst ([]))
              have f_leaves := f_leaves.mono S64
              have h39 := S64 _ _ h39
              have hl40 := hl40.mono S64
              have h47 := h47.mono S64
              have hl56 := hl56.mono S64
              have r58 := r58.mono S64
              have hl67 := hl67.mono S64
              have h66 := R.lst (a := Str) h65 hl67
              refine ⟨_, _, _, _, _, _, _, rfl, (O63.pre1 0 rfl), hl56, h66, wp_call hk (fun r68 er69 hk F70 H71 w73 g72 h74 hl75 v76 r77 => ?_) (fun n hn C H1 hC kp => hn C H1 hC (O63.kp1 kp 0 rfl))⟩
              have O78 := O63.call1 g72 0 rfl h74
              have S_ := g72.f
              have f_leaves := f_leaves.mono S_
              have h39 := S_ _ _ h39
              have hl40 := hl40.mono S_
              have h47 := h47.mono S_
              have r58 := r58.mono S_
              have h66 := h66.mono S_
              obtain ⟨p79, w80, e81, h82, hl83⟩ := R.lst_ f_leaves
              cases e81
              refine ⟨_, rfl, _, rfl, _, rfl, _, _, rfl, (SqLF O78.s h82), fun p84 hp85 => ?_⟩
              have hl91 : RL (a := Str) F70 (cutV w80 none (some (1 : Int))) (cutL x_leaves none (some (1 : Int))) := RL.cutL hl83 none (some (1 : Int))
              obtain ⟨F86, O87, S88, h89⟩ := O78.putE hp85 (.lst (cutV w80 none (some (1 : Int))))
              have f_leaves := f_leaves.mono S88
              have h39 := S88 _ _ h39
              have hl40 := hl40.mono S88
              have h47 := h47.mono S88
              have r58 := r58.mono S88
              have h66 := h66.mono S88
              have hl75 := hl75.mono S88
              have r77 := r77.mono S88
              have h82 := S88 _ _ h82
              have hl83 := hl83.mono S88
              have hl91 := hl91.mono S88
              have h90 := R.lst (a := Str) h89 hl91
              refine ⟨_, rfl, _, _, _, _, _, _, _, rfl, (O87.pre1 0 rfl), hl75, h90, wp_call hk (fun r92 er93 hk F94 H95 w97 g96 h98 hl99 v100 r101 => ?_) (fun n hn C H1 hC kp => hn C H1 hC (O87.kp1 kp 0 rfl))⟩
              have O102 := O87.call1 g96 0 rfl h98
              have S_ := g96.f
              have f_leaves := f_leaves.mono S_
              have h39 := S_ _ _ h39
              have hl40 := hl40.mono S_
              have h47 := h47.mono S_
              have r58 := r58.mono S_
              have h66 := h66.mono S_
              have r77 := r77.mono S_
              have h82 := S_ _ _ h82
              have hl83 := hl83.mono S_
              have h90 := h90.mono S_
              refine ⟨(by show 2 ≤ sizeLine; decide), fun p103 hp104 => ?_⟩
              have hl110 : RL (a := Sm) F94 ([v76, v100]) ([r68.1, r92.1]) := RL.cons r77 (RL.cons r101 RL.nil)
              obtain ⟨F105, O106, S107, h108⟩ := O102.putE hp104 (.lst ([v76, v100]))
              have f_leaves := f_leaves.mono S107
              have h39 := S107 _ _ h39
              have hl40 := hl40.mono S107
              have h47 := h47.mono S107
              have r58 := r58.mono S107
              have h66 := h66.mono S107
              have r77 := r77.mono S107
              have h82 := S107 _ _ h82
              have hl83 := hl83.mono S107
              have h90 := h90.mono S107
              have hl99 := hl99.mono S107
              have r101 := r101.mono S107
              have hl110 := hl110.mono S107
              have h109 := R.lst (a := Sm) h108 hl110
              refine ⟨_, rfl, _, _, _, _, _, rfl, (O106.pre1 0 rfl), hl99, wp_call hk (fun r111 er112 hk F113 H114 w116 g115 h117 hl118 => ?_) (fun n hn C H1 hC kp => hn C H1 hC (O106.kp1 kp 0 rfl))⟩
              have O119 := O106.call1 g115 0 rfl h117
              have S_ := g115.f
              have f_leaves := f_leaves.mono S_
              have h39 := S_ _ _ h39
              have hl40 := hl40.mono S_
              have h47 := h47.mono S_
              have r58 := r58.mono S_
              have h66 := h66.mono S_
              have r77 := r77.mono S_
              have h82 := S_ _ _ h82
              have hl83 := hl83.mono S_
              have h90 := h90.mono S_
              have r101 := r101.mono S_
              have h109 := h109.mono S_
              obtain ⟨p120, w121, e122, h123, hl124⟩ := R.lst_ h109
              cases e122
              obtain ⟨y125, e126, hk⟩ := wp_opt hk
              obtain ⟨w127, e128, r129⟩ := hl124.atI e126
              refine ⟨_, _, _, _, rfl, rfl, (SqLF O119.s h123), e128, _, rfl, (by show 3 ≤ sizeLine; decide), fun p130 hp131 => ?_⟩
              obtain ⟨F132, O133, S134, h135⟩ := O119.putE hp131 (.tup [V.str ("times" : Str), w127, v57])
              have f_leaves := f_leaves.mono S134
              have h39 := S134 _ _ h39
              have hl40 := hl40.mono S134
              have h47 := h47.mono S134
              have r58 := r58.mono S134
              have h66 := h66.mono S134
              have r77 := r77.mono S134
              have h82 := S134 _ _ h82
              have hl83 := hl83.mono S134
              have h90 := h90.mono S134
              have r101 := r101.mono S134
              have h109 := h109.mono S134
              have hl118 := hl118.mono S134
              have h123 := S134 _ _ h123
              have hl124 := hl124.mono S134
              have r129 := r129.mono S134
              have h136 : R (a := (T3 Str Sm Sm)) F132 (.ref p130) (T3.mk ("times" : Str) y125 r49.1) := R.t3 h135 R.str r129 r58
              exact hk _ _ w116 O133.g (O133.at 0 rfl) hl118 _ (R.of_two h136)
            · have hk := wp_el hk q35
              refine ⟨_, rfl, _, rfl, _, rfl, _, rfl, _, _, rfl, rfl, _, rfl, _, _, _, _, _, _, _, _, _, rfl, (O9.pre1 0 rfl), hl8, f_leaves, wp_call hk (fun r137 er138 hk F139 H140 w142 g141 h143 hl144 v145 r146 => ?_) (fun n hn C H1 hC kp => hn C H1 hC (O9.kp1 kp 0 rfl))⟩
              have O147 := O9.call1 g141 0 rfl h143
              have S_ := g141.f
              have f_leaves := f_leaves.mono S_
              refine ⟨(by show 5 ≤ sizeLine; decide), fun p148 hp149 => ?_⟩
              have hl155 : RL (a := Str) F139 ([V.str ("plus" : Str), V.str ("less" : Str), V.str ("most" : Str), V.str ("least" : Str), V.str ("plus" : Str)]) ([("plus" : Str), ("less" : Str), ("most" : Str), ("least" : Str), ("plus" : Str)]) := RL.cons R.str (RL.cons R.str (RL.cons R.str (RL.cons R.str (RL.cons R.str RL.nil))))
              obtain ⟨F150, O151, S152, h153⟩ := O147.putE hp149 (.lst ([V.str ("plus" : Str), V.str ("less" : Str), V.str ("most" : Str), V.str ("least" : Str), V.str ("plus" : Str)]))
              have f_leaves := f_leaves.mono S152
              have hl144 := hl144.mono S152
              have r146 := r146.mono S152
              have hl155 := hl155.mono S152
              have h154 := R.lst (a := Str) h153 hl155
              obtain ⟨p156, w157, e158, h159, hl160⟩ := R.lst_ h154
              cases e158
              obtain ⟨y161, e162, hk⟩ := wp_opt hk
              obtain ⟨w163, e164, r165⟩ := hl160.atI e162
              obtain rfl := R.str_ r165
              refine ⟨_, rfl, _, _, rfl, rfl, _, _, _, _, rfl, rfl, (SqLF O151.s h159), e164, _, rfl, _, rfl, _, rfl, _, rfl, _, rfl, _, _, rfl, rfl, _, rfl, _, _, _, _, _, _, _, _, _, rfl, (O151.pre1 0 rfl), hl144, f_leaves, wp_call hk (fun r166 er167 hk F168 H169 w171 g170 h172 hl173 v174 r175 => ?_) (fun n hn C H1 hC kp => hn C H1 hC (O151.kp1 kp 0 rfl))⟩
              have O176 := O151.call1 g170 0 rfl h172
              have S_ := g170.f
              have f_leaves := f_leaves.mono S_
              have r146 := r146.mono S_
              have h154 := h154.mono S_
              have h159 := S_ _ _ h159
              have hl160 := hl160.mono S_
              refine ⟨(by show 3 ≤ sizeLine; decide), fun p177 hp178 => ?_⟩
              obtain ⟨F179, O180, S181, h182⟩ := O176.putE hp178 (.tup [V.str y161, v145, v174])
              have f_leaves := f_leaves.mono S181
              have r146 := r146.mono S181
              have h154 := h154.mono S181
              have h159 := S181 _ _ h159
              have hl160 := hl160.mono S181
              have hl173 := hl173.mono S181
              have r175 := r175.mono S181
              have h183 : R (a := (T3 Str Sm Sm)) F179 (.ref p177) (T3.mk y161 r137.1 r166.1) := R.t3 h182 R.str r146 r175
              exact hk _ _ w171 O180.g (O180.at 0 rfl) hl173 _ (R.of_two h183)
          · have hk := wp_el hk q34
            refine iteF ?_
            refine ⟨_, rfl, _, rfl, _, rfl, _, rfl, _, _, rfl, rfl, _, rfl, _, _, _, _, _, _, _, _, _, rfl, (O9.pre1 0 rfl), hl8, f_leaves, wp_call hk (fun r184 er185 hk F186 H187 w189 g188 h190 hl191 v192 r193 => ?_) (fun n hn C H1 hC kp => hn C H1 hC (O9.kp1 kp 0 rfl))⟩
            have O194 := O9.call1 g188 0 rfl h190
            have S_ := g188.f
            have f_leaves := f_leaves.mono S_
            refine ⟨(by show 5 ≤ sizeLine; decide), fun p195 hp196 => ?_⟩
            have hl202 : RL (a := Str) F186 ([V.str ("plus" : Str), V.str ("less" : Str), V.str ("most" : Str), V.str ("least" : Str), V.str ("plus" : Str)]) ([("plus" : Str), ("less" : Str), ("most" : Str), ("least" : Str), ("plus" : Str)]) := RL.cons R.str (RL.cons R.str (RL.cons R.str (RL.cons R.str (RL.cons R.str RL.nil))))
            obtain ⟨F197, O198, S199, h200⟩ := O194.putE hp196 (.lst ([V.str ("plus" : Str), V.str ("less" : Str), V.str ("most" : Str), V.str ("least" : Str), V.str ("plus" : Str)]))
            have f_leaves := f_leaves.mono S199
            have hl191 := hl191.mono S199
            have r193 := r193.mono S199
            have hl202 := hl202.mono S199
            have h201 := R.lst (a := Str) h200 hl202
            obtain ⟨p203, w204, e205, h206, hl207⟩ := R.lst_ h201
            cases e205
            obtain ⟨y208, e209, hk⟩ := wp_opt hk
            obtain ⟨w210, e211, r212⟩ := hl207.atI e209
            obtain rfl := R.str_ r212
            refine ⟨_, rfl, _, _, rfl, rfl, _, _, _, _, rfl, rfl, (SqLF O198.s h206), e211, _, rfl, _, rfl, _, rfl, _, rfl, _, rfl, _, _, rfl, rfl, _, rfl, _, _, _, _, _, _, _, _, _, rfl, (O198.pre1 0 rfl), hl191, f_leaves, wp_call hk (fun r213 er214 hk F215 H216 w218 g217 h219 hl220 v221 r222 => ?_) (fun n hn C H1 hC kp => hn C H1 hC (O198.kp1 kp 0 rfl))⟩
            have O223 := O198.call1 g217 0 rfl h219
            have S_ := g217.f
            have f_leaves := f_leaves.mono S_
            have r193 := r193.mono S_
            have h201 := h201.mono S_
            have h206 := S_ _ _ h206
            have hl207 := hl207.mono S_
            refine ⟨(by show 3 ≤ sizeLine; decide), fun p224 hp225 => ?_⟩
            obtain ⟨F226, O227, S228, h229⟩ := O223.putE hp225 (.tup [V.str y208, v192, v221])
            have f_leaves := f_leaves.mono S228
            have r193 := r193.mono S228
            have h201 := h201.mono S228
            have h206 := S228 _ _ h206
            have hl207 := hl207.mono S228
            have hl220 := hl220.mono S228
            have r222 := r222.mono S228
            have h230 : R (a := (T3 Str Sm Sm)) F226 (.ref p224) (T3.mk y208 r184.1 r213.1) := R.t3 h229 R.str r193 r222
            exact hk _ _ w218 O227.g (O227.at 0 rfl) hl220 _ (R.of_two h230)
abbrev s_law_rule : Stmt := top 51
theorem sc_law_rule : FnScope ["deck", "times", "many", "found", "leaves", "k"] ["deck", "times"] (defScope s_law_rule) := ⟨rfl, rfl, rfl, by decide +kernel, rfl, by decide +kernel, by decide +kernel⟩
def m_law_rule (x_deck : (List Int)) (x_times : Bool) : M ((T4 (List Sm) (List Sm) (List Sm) Sm) × (List Int)) :=
m_law_take x_deck (3 : Int) >>= fun r1 =>
loopN (fun (y53 : (List Str)) (st64 : (List (List Sm)) × (List Int)) =>
chk (okR ((1 : Int) + r1.1)) >>= fun _ =>
compS (fun (y74 : Int) (st92 : (List Int)) =>
m_law_sum 5 st92 y53 ((1 : Int) + r1.1) (2 : Int) x_times >>= fun r98 =>
.ok (some r98.1, r98.2)) (rangeL 0 ((1 : Int) + r1.1)) st64.2 >>= fun q122 =>
appL st64.1 q122.1 >>= fun _ =>
.ok ((st64.1 ++ [q122.1]), q122.2)) ([[("own" : Str)], [("more" : Str), ("own" : Str), ("tie" : Str)], [("so" : Str), ("own" : Str), ("more" : Str)]]) (([] : List (List Sm)), r1.2) >>= fun st135 =>
opt (atI st135.1 (0 : Int)) >>= fun y144 =>
opt (atI st135.1 (1 : Int)) >>= fun y149 =>
opt (atI st135.1 (2 : Int)) >>= fun y154 =>
m_law_sum 5 st135.2 ([("so" : Str), ("own" : Str)]) ((1 : Int) + r1.1) (2 : Int) x_times >>= fun r167 =>
.ok ((T4.mk y144 y149 y154 r167.1), r167.2)
def sp_law_rule (mg : Str → Option Value) : Sp := fun vs H Q E => ∃ (F : Hp) (a_deck : Addr) (w_deck : (List V)) (x_deck : (List Int)) (x_times : Bool), vs = [.ref a_deck, V.bl x_times] ∧ Pre F [(a_deck, .lst w_deck)] H ∧ RL (a := Int) F w_deck x_deck ∧
  wp (m_law_rule x_deck x_times) (fun r => ∀ (F' H' : Hp) (w0 : (List V)), Gr [a_deck] F H F' H' → H' a_deck = some (.lst w0) → RL (a := Int) F' w0 r.2 → ∀ v : V, R (a := (T4 (List Sm) (List Sm) (List Sm) Sm)) F' v r.1 → Q v H')
  (fun n => ∀ (C : Addr) (H' : Hp), mg (Str.ofString n) = some (.ref C) → Kp [a_deck] H H' → E (.ref C) none H')
set_option maxHeartbeats 2000000 in
theorem ok_law_rule (nb : Nb mg) (C_law_sum : Ca P w K mg base "_law_sum" 8 ["deck", "leaves", "many", "deep", "times"] (sp_law_sum 5 mg)) (C_law_take : Ca P w K mg base "_law_take" 1 ["deck", "many"] (sp_law_take mg)) (D : Df K mg "_law_rule" "_law_rule" s_law_rule ["deck", "times"]) : Ca P w K mg base "_law_rule" 9 ["deck", "times"] (sp_law_rule mg) := by
  obtain ⟨fa_law_sum, fd_law_sum, G_law_sum, M_law_sum, K_law_sum, B_law_sum⟩ := C_law_sum.ex
  obtain ⟨fa_law_take, fd_law_take, G_law_take, M_law_take, K_law_take, B_law_take⟩ := C_law_take.ex
  refine Ca.mk' D sc_law_rule (fun vs H Q E h => ?_) (fun q_ f_ cdv A outer s H vs Q E hr h => ?_)
  · obtain ⟨F, _, _, _, _, rfl, _⟩ := h
    rfl
  · obtain ⟨F, a_deck, w_deck, x_deck, x_times, rfl, P0, f_deck, hk⟩ := h
    have nd := sc_law_rule.nd
    have hu64 := hr.units
    have hu128 := hu128_of hr
    have O := P0.start
    refine ⟨_, (pss_cons (ps_set (i := 2) nd rfl (Or.inr rfl) (pe_op op_add pe_int (pe_call G_law_take (hr.mono (by decide)) rfl M_law_take K_law_take B_law_take .nil (passes_call (takes_of rfl rfl rfl rfl) fun _ _ _ _ h => h) (pa_cons (pv 0) (pa_cons pe_int pa_nil)))))
  (pss_cons (ps_set (i := 3) nd rfl (Or.inl rfl) (pe_lst pa_nil))
  (pss_cons (ps_for (passes_of rfl) rfl (piListK (K := K) rfl (pe_lst (pa_cons (pe_lst (pa_cons pe_str pa_nil)) (pa_cons (pe_lst (pa_cons pe_str (pa_cons pe_str (pa_cons pe_str pa_nil)))) (pa_cons (pe_lst (pa_cons pe_str (pa_cons pe_str (pa_cons pe_str pa_nil)))) pa_nil))))) (pg_name (i := 4) nd rfl (Or.inr rfl)) (pss_one (ps_expr (pe_bm PySem.F.plainAttrs_list PySem.F.slot_list_append PySem.F.type_list_append mt_append (pv 3) (pa_cons (pe_lc (own := [("k", 5)]) (g := gName 5) (tt := _) rfl nd (pi_range1 rfl nb.b_range (pa_cons (pv 2) pa_nil)) (blkOk_by (own := [("k", 5)]) (N := ["deck", "times", "many", "found", "leaves", "k"]) (sc := defScope s_law_rule) (by decide +kernel)) (fun _ _ _ _ _ => (pg_name (i := 5) nd rfl (Or.inl rfl))) (fun _ _ _ _ _ => pts_nil) (fun _ _ _ _ _ => (pe_call G_law_sum (hr.mono (by decide)) rfl M_law_sum K_law_sum B_law_sum .nil passL (pa_cons (pv 0) (pa_cons (pv 4) (pa_cons (pv 2) (pa_cons pe_int (pa_cons (pv 1) pa_nil)))))))) pa_nil)))))
  (pss_one (ps_ret (pe_tup (pa_cons (pe_ix (ixListK (K := K) rfl) (pv 3) pe_int (fun _ _ => rfl)) (pa_cons (pe_ix (ixListK (K := K) rfl) (pv 3) pe_int (fun _ _ => rfl)) (pa_cons (pe_ix (ixListK (K := K) rfl) (pv 3) pe_int (fun _ _ => rfl)) (pa_cons (pe_call G_law_sum (hr.mono (by decide)) rfl M_law_sum K_law_sum B_law_sum .nil (passes_call (takes_of rfl rfl rfl rfl) fun _ _ _ _ h => h) (pa_cons (pv 0) (pa_cons (pe_lst (pa_cons pe_str (pa_cons pe_str pa_nil))) (pa_cons (pv 2) (pa_cons pe_int (pa_cons (pv 1) pa_nil)))))) pa_nil)))))))))), ?_⟩
    refine ⟨_, rfl, _, _, _, _, _, rfl, (O.pre1 0 rfl), f_deck, wp_call hk (fun r1 er2 hk F3 H4 w6 g5 h7 hl8 => ?_) (fun n hn C H1 hC kp => hn C H1 hC (O.kp1 kp 0 rfl))⟩
    have O9 := O.call1 g5 0 rfl h7
    have S_ := g5.f
    refine ⟨_, _, rfl, rfl, (by show 0 ≤ sizeLine; decide), fun p11 hp12 => ?_⟩
    have hl14 : RL (a := (List Sm)) F3 ([]) ([] : List (List Sm)) := RL.nil
    have z15 := O9.was hp12
    have O13 := O9.new (o := .lst ([])) hp12
    refine ⟨(by show 1 ≤ sizeLine; decide), fun p16 hp17 => ?_⟩
    have hl23 : RL (a := Str) F3 ([V.str ("own" : Str)]) ([("own" : Str)]) := RL.cons R.str RL.nil
    obtain ⟨F18, O19, S20, h21⟩ := O13.putE hp17 (.lst ([V.str ("own" : Str)]))
    have hl8 := hl8.mono S20
    have hl14 := hl14.mono S20
    have hl23 := hl23.mono S20
    have h22 := R.lst (a := Str) h21 hl23
    refine ⟨(by show 3 ≤ sizeLine; decide), fun p24 hp25 => ?_⟩
    have hl31 : RL (a := Str) F18 ([V.str ("more" : Str), V.str ("own" : Str), V.str ("tie" : Str)]) ([("more" : Str), ("own" : Str), ("tie" : Str)]) := RL.cons R.str (RL.cons R.str (RL.cons R.str RL.nil))
    obtain ⟨F26, O27, S28, h29⟩ := O19.putE hp25 (.lst ([V.str ("more" : Str), V.str ("own" : Str), V.str ("tie" : Str)]))
    have hl8 := hl8.mono S28
    have hl14 := hl14.mono S28
    have h22 := h22.mono S28
    have hl31 := hl31.mono S28
    have h30 := R.lst (a := Str) h29 hl31
    refine ⟨(by show 3 ≤ sizeLine; decide), fun p32 hp33 => ?_⟩
    have hl39 : RL (a := Str) F26 ([V.str ("so" : Str), V.str ("own" : Str), V.str ("more" : Str)]) ([("so" : Str), ("own" : Str), ("more" : Str)]) := RL.cons R.str (RL.cons R.str (RL.cons R.str RL.nil))
    obtain ⟨F34, O35, S36, h37⟩ := O27.putE hp33 (.lst ([V.str ("so" : Str), V.str ("own" : Str), V.str ("more" : Str)]))
    have hl8 := hl8.mono S36
    have hl14 := hl14.mono S36
    have h22 := h22.mono S36
    have h30 := h30.mono S36
    have hl39 := hl39.mono S36
    have h38 := R.lst (a := Str) h37 hl39
    refine ⟨(by show 3 ≤ sizeLine; decide), fun p40 hp41 => ?_⟩
    have hl47 : RL (a := (List Str)) F34 ([V.ref p16, V.ref p24, V.ref p32]) ([[("own" : Str)], [("more" : Str), ("own" : Str), ("tie" : Str)], [("so" : Str), ("own" : Str), ("more" : Str)]]) := RL.cons h22 (RL.cons h30 (RL.cons h38 RL.nil))
    obtain ⟨F42, O43, S44, h45⟩ := O35.putE hp41 (.lst ([V.ref p16, V.ref p24, V.ref p32]))
    have hl8 := hl8.mono S44
    have hl14 := hl14.mono S44
    have h22 := h22.mono S44
    have h30 := h30.mono S44
    have h38 := h38.mono S44
    have hl47 := hl47.mono S44
    have h46 := R.lst (a := (List Str)) h45 hl47
    obtain ⟨p48, w49, e50, h51, hl52⟩ := R.lst_ h46
    cases e50
    obtain ⟨L54, hL55, hLs56, hLd57⟩ := loopN_L hk
    refine ⟨_, rfl, ⟨_, (SqLF O43.s h51)⟩, ?_⟩
    refine for_list (K := K) (xs := w49) (fun i σ H => ∃ (F_ : Hp) (st : (List (List Sm)) × (List Int)) (w_0 : (List V)) (w_1 : (List V)) (t_0 : Option V), σ = [some (V.ref a_deck), some (V.bl x_times), some (V.int ((1 : Int) + r1.1)), some (V.ref p11), t_0, none] ∧ Same F42 F_ ∧ Ow _ F_ [(p11, .lst w_0), (a_deck, .lst w_1)] H ∧ RL (a := (List Sm)) F_ w_0 st.1 ∧ RL (a := Int) F_ w_1 st.2 ∧ L54 (List.drop i ([[("own" : Str)], [("more" : Str), ("own" : Str), ("tie" : Str)], [("so" : Str), ("own" : Str), ("more" : Str)]])) st) ⟨F42, (([] : List (List Sm)), r1.2), [], w6, none, rfl, Same.refl _, O43, hl14, hl8, hL55⟩ (fun i_ σ_ H_ _ hp_ => ?_) ?_ ?_
    · obtain ⟨_, _, _, _, _, _, hS_, hO_, _⟩ := hp_
      exact SqLF hO_.s (hS_ _ _ h51)
    · rintro i58 x59 sg60 H61 hi62 ⟨F70, st64, w65, w66, t69, rfl, S63, O71, hl67, hl68, hL55⟩
      have h22 := h22.mono S63
      have h30 := h30.mono S63
      have h38 := h38.mono S63
      have h46 := h46.mono S63
      have h51 := S63 _ _ h51
      have hl52 := hl52.mono S63
      obtain ⟨y53, e72, r73⟩ := RL.got hl52 hi62
      rw [drop_at e72] at hL55
      have hk := hLs56 _ _ _ hL55
      obtain ⟨c75, hk⟩ := wp_chk hk
      obtain ⟨c80, L76, hL77, hLs78, hLd79⟩ := compS_L hk
      refine ⟨_, rfl, (.inl ⟨rfl, _, SqL.of (O71.at 0 rfl)⟩), _, rfl, _, rfl, c75.lo, c75.hi, fun p81 hp82 => ?_⟩
      have z109 := O71.was hp82
      refine lc_range (lo := 0) (n := (((1 : Int) + r1.1)).toNat) (fun i H => ∃ (F_ : Hp) (st : (List Int)) (acc : List Sm) (wa : List V) (w_0 : (List V)), Same F70 F_ ∧ Ow _ F_ [(p81, .lst wa), (p11, .lst w65), (a_deck, .lst w_0)] H ∧ RL F_ wa acc ∧ RL (a := Int) F_ w_0 st ∧ wa.length ≤ i ∧ L76 (List.drop i (rangeL 0 ((1 : Int) + r1.1))) acc st) ⟨F70, st64.2, [], [], w66, Same.refl _, O71.new hp82, RL.nil, hl68, Nat.zero_le _, hL77⟩ ?_ ?_
      · rintro i83 H85 hi86 ⟨F91, st92, acc88, wa89, w94, S93, O97, hl96, hl95, la90, hL77⟩
        have h22 := h22.mono S93
        have h30 := h30.mono S93
        have h38 := h38.mono S93
        have h46 := h46.mono S93
        have h51 := S93 _ _ h51
        have hl52 := hl52.mono S93
        have hl67 := hl67.mono S93
        have S63 := S63.trans S93
        have r73 := r73.mono S93
        rw [rangeL_get0 hi86] at hL77
        have hk := hLs78 _ _ _ _ hL77
        obtain ⟨y74, he_⟩ : ∃ z_, z_ = 0 + (i83 : Int) := ⟨_, rfl⟩
        try rw [← he_] at hk
        rw [← he_]
        refine ⟨rfl, ?_⟩
        refine ⟨_, rfl, _, rfl, _, rfl, _, rfl, _, _, _, _, _, _, _, _, _, rfl, (O97.pre1 2 rfl), hl95, r73, wp_call hk (fun r98 er99 hk F100 H101 w103 g102 h104 hl105 v106 r107 => ?_) (fun n hn => hn.elim)⟩
        have O108 := O97.call1 g102 2 rfl h104
        have S_ := g102.f
        have h22 := h22.mono S_
        have h30 := h30.mono S_
        have h38 := h38.mono S_
        have h46 := h46.mono S_
        have h51 := S_ _ _ h51
        have hl52 := hl52.mono S_
        have hl67 := hl67.mono S_
        have S63 := S63.trans S_
        have r73 := r73.mono S_
        have S93 := S93.trans S_
        have hl96 := hl96.mono S_
        refine ⟨_, (O108.at 0 rfl), (comp_lenR la90 hi86 (by rw [Int.sub_zero]) c80), ?_⟩
        exact ⟨F100, r98.2, acc88 ++ [r98.1], wa89 ++ [v106], w103, S93, O108.set 0 (.lst (wa89 ++ [v106])) rfl, RL.snoc hl96 r107, hl105, by rw [List.length_append]; exact Nat.succ_le_succ la90, hk⟩
      rintro H110 ⟨F111, st112, acc113, wa114, w120, S115, O116, hl117, hl121, la118, hL119⟩
      rw [rangeL_end0] at hL119
      have hk := hLd79 _ _ hL119
      have h22 := h22.mono S115
      have h30 := h30.mono S115
      have h38 := h38.mono S115
      have h46 := h46.mono S115
      have h51 := S115 _ _ h51
      have hl52 := hl52.mono S115
      have hl67 := hl67.mono S115
      have S63 := S63.trans S115
      have r73 := r73.mono S115
      obtain ⟨F123, O124, S125, h126⟩ := O116.frzE 0 rfl z109
      have h22 := h22.mono S125
      have h30 := h30.mono S125
      have h38 := h38.mono S125
      have h46 := h46.mono S125
      have h51 := S125 _ _ h51
      have hl52 := hl52.mono S125
      have hl67 := hl67.mono S125
      have S63 := S63.trans S125
      have r73 := r73.mono S125
      have hl121 := hl121.mono S125
      have hl117 := hl117.mono S125
      have h127 := R.lst (a := Sm) h126 hl117
      obtain ⟨c128, hk⟩ := wp_appL hk
      refine ⟨_, _, _, rfl, rfl, (O124.at 0 rfl), (by rw [hl67.len]; exact c128), ?_⟩
      have O130 := O124.set 0 (.lst (w65 ++ [V.ref p81])) rfl
      have hl131 : RL (a := (List Sm)) F123 (w65 ++ [V.ref p81]) (st64.1 ++ [acc113]) := RL.snoc hl67 h127
      exact ⟨F123, ((st64.1 ++ [acc113]), st112), (w65 ++ [V.ref p81]), w120, some x59, rfl, S63, O130, hl131, hl121, hk⟩
    rintro sg132 H133 ⟨F142, st135, w137, w138, t141, rfl, S134, O143, hl139, hl140, hL136⟩
    rw [drop_end hl52.len] at hL136
    have hk := hLd57 _ hL136
    have h22 := h22.mono S134
    have h30 := h30.mono S134
    have h38 := h38.mono S134
    have h46 := h46.mono S134
    have h51 := S134 _ _ h51
    have hl52 := hl52.mono S134
    obtain ⟨y144, e145, hk⟩ := wp_opt hk
    obtain ⟨w146, e147, r148⟩ := hl139.atI e145
    obtain ⟨y149, e150, hk⟩ := wp_opt hk
    obtain ⟨w151, e152, r153⟩ := hl139.atI e150
    obtain ⟨y154, e155, hk⟩ := wp_opt hk
    obtain ⟨w156, e157, r158⟩ := hl139.atI e155
    refine ⟨_, rfl, _, _, _, _, rfl, rfl, (SqL.of (O143.at 0 rfl)), e147, _, rfl, _, _, _, _, rfl, rfl, (SqL.of (O143.at 0 rfl)), e152, _, rfl, _, _, _, _, rfl, rfl, (SqL.of (O143.at 0 rfl)), e157, _, rfl, (by show 2 ≤ sizeLine; decide), fun p159 hp160 => ?_⟩
    have hl166 : RL (a := Str) F142 ([V.str ("so" : Str), V.str ("own" : Str)]) ([("so" : Str), ("own" : Str)]) := RL.cons R.str (RL.cons R.str RL.nil)
    obtain ⟨F161, O162, S163, h164⟩ := O143.putE hp160 (.lst ([V.str ("so" : Str), V.str ("own" : Str)]))
    have h22 := h22.mono S163
    have h30 := h30.mono S163
    have h38 := h38.mono S163
    have h46 := h46.mono S163
    have h51 := S163 _ _ h51
    have hl52 := hl52.mono S163
    have hl139 := hl139.mono S163
    have hl140 := hl140.mono S163
    have r148 := r148.mono S163
    have r153 := r153.mono S163
    have r158 := r158.mono S163
    have hl166 := hl166.mono S163
    have h165 := R.lst (a := Str) h164 hl166
    refine ⟨_, rfl, _, rfl, _, _, _, _, _, _, _, _, _, rfl, (O162.pre1 1 rfl), hl140, h165, wp_call hk (fun r167 er168 hk F169 H170 w172 g171 h173 hl174 v175 r176 => ?_) (fun n hn C H1 hC kp => hn C H1 hC (O162.kp1 kp 1 rfl))⟩
    have O177 := O162.call1 g171 1 rfl h173
    have S_ := g171.f
    have h22 := h22.mono S_
    have h30 := h30.mono S_
    have h38 := h38.mono S_
    have h46 := h46.mono S_
    have h51 := S_ _ _ h51
    have hl52 := hl52.mono S_
    have hl139 := hl139.mono S_
    have r148 := r148.mono S_
    have r153 := r153.mono S_
    have r158 := r158.mono S_
    have h165 := h165.mono S_
    refine ⟨(by show 4 ≤ sizeLine; decide), fun p178 hp179 => ?_⟩
    obtain ⟨F180, O181, S182, h183⟩ := O177.putE hp179 (.tup [w146, w151, w156, v175])
    have h22 := h22.mono S182
    have h30 := h30.mono S182
    have h38 := h38.mono S182
    have h46 := h46.mono S182
    have h51 := S182 _ _ h51
    have hl52 := hl52.mono S182
    have hl139 := hl139.mono S182
    have r148 := r148.mono S182
    have r153 := r153.mono S182
    have r158 := r158.mono S182
    have h165 := h165.mono S182
    have hl174 := hl174.mono S182
    have r176 := r176.mono S182
    have h184 : R (a := (T4 (List Sm) (List Sm) (List Sm) Sm)) F180 (.ref p178) (T4.mk y144 y149 y154 r167.1) := R.t4 h183 r148 r153 r158 r176
    exact hk _ _ w172 O181.g (O181.at 1 rfl) hl174 _ h184
abbrev s_law_asked : Stmt := top 52
theorem sc_law_asked : FnScope ["tree", "rule", "place", "way"] ["tree", "rule", "place", "way"] (defScope s_law_asked) := ⟨rfl, rfl, rfl, by decide +kernel, rfl, by decide +kernel, by decide +kernel⟩
def m_law_asked (x_tree : ((List Int) × (List (T3 Int Int Int)))) (x_rule : (T4 (List Sm) (List Sm) (List Sm) Sm)) (x_place : Int) (x_way : Int) : M (Unit) :=
if x_way = (0 : Int) then (
m_need_rule x_rule >>= fun r2 =>
.ok ())
else (
if x_way = (1 : Int) then (
m_branch_row x_tree x_rule (x_place, x_place) >>= fun r16 =>
.ok ())
else (
if x_way = (2 : Int) then (
m_seat_worth x_tree x_rule x_place >>= fun r36 =>
.ok ())
else (
if x_way = (3 : Int) then (
m_all_rows x_tree x_rule >>= fun r43 =>
.ok ())
else (
if x_way = (4 : Int) then (
m_all_seats x_tree x_rule >>= fun r52 =>
.ok ())
else (
if x_way = (5 : Int) then (
m_best_seats x_tree x_rule >>= fun r72 =>
.ok ())
else (
m_least_seats x_tree x_rule >>= fun r91 =>
.ok ()))))))
def sp_law_asked (mg : Str → Option Value) : Sp := fun vs H Q E => ∃ (F : Hp) (v_tree : V) (x_tree : ((List Int) × (List (T3 Int Int Int)))) (v_rule : V) (x_rule : (T4 (List Sm) (List Sm) (List Sm) Sm)) (x_place : Int) (x_way : Int), vs = [v_tree, v_rule, V.int x_place, V.int x_way] ∧ Pre F [] H ∧ R (a := ((List Int) × (List (T3 Int Int Int)))) F v_tree x_tree ∧ R (a := (T4 (List Sm) (List Sm) (List Sm) Sm)) F v_rule x_rule ∧
  wp (m_law_asked x_tree x_rule x_place x_way) (fun r => ∀ (F' H' : Hp), Gr [] F H F' H' → ∀ v : V, Q v H')
  (fun n => ∀ (C : Addr) (H' : Hp), mg (Str.ofString n) = some (.ref C) → Kp [] H H' → E (.ref C) none H')
set_option maxHeartbeats 2000000 in
theorem ok_law_asked (nb : Nb mg) (C_all_rows : Ca P w K mg base "all_rows" 64 ["tree", "rule"] (sp_all_rows mg)) (C_all_seats : Ca P w K mg base "all_seats" 64 ["tree", "rule"] (sp_all_seats mg)) (C_best_seats : Ca P w K mg base "best_seats" 65 ["tree", "rule"] (sp_best_seats mg)) (C_branch_row : Ca P w K mg base "branch_row" 77 ["tree", "rule", "branch"] (sp_branch_row mg)) (C_least_seats : Ca P w K mg base "least_seats" 65 ["tree", "rule"] (sp_least_seats mg)) (C_need_rule : Ca P w K mg base "need_rule" 63 ["rule"] (sp_need_rule mg)) (C_seat_worth : Ca P w K mg base "seat_worth" 77 ["tree", "rule", "place"] (sp_seat_worth mg)) (D : Df K mg "_law_asked" "_law_asked" s_law_asked ["tree", "rule", "place", "way"]) : Ca P w K mg base "_law_asked" 78 ["tree", "rule", "place", "way"] (sp_law_asked mg) := by
  obtain ⟨fa_all_rows, fd_all_rows, G_all_rows, M_all_rows, K_all_rows, B_all_rows⟩ := C_all_rows.ex
  obtain ⟨fa_all_seats, fd_all_seats, G_all_seats, M_all_seats, K_all_seats, B_all_seats⟩ := C_all_seats.ex
  obtain ⟨fa_best_seats, fd_best_seats, G_best_seats, M_best_seats, K_best_seats, B_best_seats⟩ := C_best_seats.ex
  obtain ⟨fa_branch_row, fd_branch_row, G_branch_row, M_branch_row, K_branch_row, B_branch_row⟩ := C_branch_row.ex
  obtain ⟨fa_least_seats, fd_least_seats, G_least_seats, M_least_seats, K_least_seats, B_least_seats⟩ := C_least_seats.ex
  obtain ⟨fa_need_rule, fd_need_rule, G_need_rule, M_need_rule, K_need_rule, B_need_rule⟩ := C_need_rule.ex
  obtain ⟨fa_seat_worth, fd_seat_worth, G_seat_worth, M_seat_worth, K_seat_worth, B_seat_worth⟩ := C_seat_worth.ex
  refine Ca.mk' D sc_law_asked (fun vs H Q E h => ?_) (fun q_ f_ cdv A outer s H vs Q E hr h => ?_)
  · obtain ⟨F, _, _, _, _, _, _, rfl, _⟩ := h
    rfl
  · obtain ⟨F, v_tree, x_tree, v_rule, x_rule, x_place, x_way, rfl, P0, f_tree, f_rule, hk⟩ := h
    have nd := sc_law_asked.nd
    have hu64 := hr.units
    have hu128 := hu128_of hr
    have O := P0.start
    refine ⟨_, (pss_cons (ps_if (pt_cmpR (op_eqT Int hu64) (pv 3) pe_int (nomark _)) (pss_one (ps_ret (pe_call G_need_rule (hr.mono (by decide)) rfl M_need_rule K_need_rule B_need_rule .nil (passes_call (takes_of rfl rfl rfl rfl) fun _ _ _ _ h => h) (pa_cons (pv 1) pa_nil)))) pss_nil)
  (pss_cons (ps_if (pt_cmpR (op_eqT Int hu64) (pv 3) pe_int (nomark _)) (pss_one (ps_ret (pe_call G_branch_row (hr.mono (by decide)) rfl M_branch_row K_branch_row B_branch_row .nil (passes_call (takes_of rfl rfl rfl rfl) fun _ _ _ _ h => h) (pa_cons (pv 0) (pa_cons (pv 1) (pa_cons (pe_tup (pa_cons (pv 2) (pa_cons (pv 2) pa_nil))) pa_nil)))))) pss_nil)
  (pss_cons (ps_if (pt_cmpR (op_eqT Int hu64) (pv 3) pe_int (nomark _)) (pss_one (ps_ret (pe_call G_seat_worth (hr.mono (by decide)) rfl M_seat_worth K_seat_worth B_seat_worth .nil (passes_call (takes_of rfl rfl rfl rfl) fun _ _ _ _ h => h) (pa_cons (pv 0) (pa_cons (pv 1) (pa_cons (pv 2) pa_nil)))))) pss_nil)
  (pss_cons (ps_if (pt_cmpR (op_eqT Int hu64) (pv 3) pe_int (nomark _)) (pss_one (ps_ret (pe_call G_all_rows (hr.mono (by decide)) rfl M_all_rows K_all_rows B_all_rows .nil (passes_call (takes_of rfl rfl rfl rfl) fun _ _ _ _ h => h) (pa_cons (pv 0) (pa_cons (pv 1) pa_nil))))) pss_nil)
  (pss_cons (ps_if (pt_cmpR (op_eqT Int hu64) (pv 3) pe_int (nomark _)) (pss_one (ps_ret (pe_call G_all_seats (hr.mono (by decide)) rfl M_all_seats K_all_seats B_all_seats .nil (passes_call (takes_of rfl rfl rfl rfl) fun _ _ _ _ h => h) (pa_cons (pv 0) (pa_cons (pv 1) pa_nil))))) pss_nil)
  (pss_cons (ps_if (pt_cmpR (op_eqT Int hu64) (pv 3) pe_int (nomark _)) (pss_one (ps_ret (pe_call G_best_seats (hr.mono (by decide)) rfl M_best_seats K_best_seats B_best_seats .nil (passes_call (takes_of rfl rfl rfl rfl) fun _ _ _ _ h => h) (pa_cons (pv 0) (pa_cons (pv 1) pa_nil))))) pss_nil)
  (pss_one (ps_ret (pe_call G_least_seats (hr.mono (by decide)) rfl M_least_seats K_least_seats B_least_seats .nil (passes_call (takes_of rfl rfl rfl rfl) fun _ _ _ _ h => h) (pa_cons (pv 0) (pa_cons (pv 1) pa_nil))))))))))), ?_⟩
    refine ⟨_, rfl, _, _, R.int, R.int, _, rfl, ?_⟩
    refine iteD (fun q1 => ?_) (fun q1 => ?_)
    · have hk := wp_if hk q1
      refine ⟨_, rfl, _, _, _, rfl, O.pre0, f_rule, wp_call hk (fun r2 er3 hk F4 H5 g6 => ?_) (fun n hn C H1 hC kp => hn C H1 hC (O.kp0 kp))⟩
      have O7 := O.call0 g6
      have S_ := g6.f
      have f_tree := f_tree.mono S_
      have f_rule := f_rule.mono S_
      exact hk _ _  O7.g  _
    · have hk := wp_el hk q1
      refine ⟨_, rfl, _, _, R.int, R.int, _, rfl, ?_⟩
      refine iteD (fun q8 => ?_) (fun q8 => ?_)
      · have hk := wp_if hk q8
        refine ⟨_, rfl, _, rfl, _, rfl, _, rfl, (by show 2 ≤ sizeLine; decide), fun p9 hp10 => ?_⟩
        obtain ⟨F11, O12, S13, h14⟩ := O.putE hp10 (.tup [V.int x_place, V.int x_place])
        have f_tree := f_tree.mono S13
        have f_rule := f_rule.mono S13
        have h15 : R (a := (Int × Int)) F11 (.ref p9) (x_place, x_place) := R.t2 h14 R.int R.int
        refine ⟨_, _, _, _, _, _, _, rfl, O12.pre0, f_tree, f_rule, h15, wp_call hk (fun r16 er17 hk F18 H19 g20 p21 w22 hn23 hf24 h25 hl26 => ?_) (fun n hn C H1 hC kp => hn C H1 hC (O12.kp0 kp))⟩
        have O27 := O12.call0 g20
        have S_ := g20.f
        have f_tree := f_tree.mono S_
        have f_rule := f_rule.mono S_
        have h15 := h15.mono S_
        have O28 := O12.got O27 rfl hn23 hf24 h25
        have z29 := O12.was hn23
        obtain ⟨F30, O31, S32, h33⟩ := O28.frzE 0 rfl z29
        have f_tree := f_tree.mono S32
        have f_rule := f_rule.mono S32
        have h15 := h15.mono S32
        have hl26 := hl26.mono S32
        have h34 := R.lst (a := Int) h33 hl26
        exact hk _ _  O31.g  _
      · have hk := wp_el hk q8
        refine ⟨_, rfl, _, _, R.int, R.int, _, rfl, ?_⟩
        refine iteD (fun q35 => ?_) (fun q35 => ?_)
        · have hk := wp_if hk q35
          refine ⟨_, rfl, _, rfl, _, rfl, _, _, _, _, _, _, rfl, O.pre0, f_tree, f_rule, wp_call hk (fun r36 er37 hk F38 H39 g40 => ?_) (fun n hn C H1 hC kp => hn C H1 hC (O.kp0 kp))⟩
          have O41 := O.call0 g40
          have S_ := g40.f
          have f_tree := f_tree.mono S_
          have f_rule := f_rule.mono S_
          exact hk _ _  O41.g  _
        · have hk := wp_el hk q35
          refine ⟨_, rfl, _, _, R.int, R.int, _, rfl, ?_⟩
          refine iteD (fun q42 => ?_) (fun q42 => ?_)
          · have hk := wp_if hk q42
            refine ⟨_, rfl, _, rfl, _, _, _, _, _, rfl, O.pre0, f_tree, f_rule, wp_call hk (fun r43 er44 hk F45 H46 g47 v48 r49 => ?_) (fun n hn C H1 hC kp => hn C H1 hC (O.kp0 kp))⟩
            have O50 := O.call0 g47
            have S_ := g47.f
            have f_tree := f_tree.mono S_
            have f_rule := f_rule.mono S_
            exact hk _ _  O50.g  _
          · have hk := wp_el hk q42
            refine ⟨_, rfl, _, _, R.int, R.int, _, rfl, ?_⟩
            refine iteD (fun q51 => ?_) (fun q51 => ?_)
            · have hk := wp_if hk q51
              refine ⟨_, rfl, _, rfl, _, _, _, _, _, rfl, O.pre0, f_tree, f_rule, wp_call hk (fun r52 er53 hk F54 H55 g56 p57 w58 hn59 hf60 h61 hl62 => ?_) (fun n hn C H1 hC kp => hn C H1 hC (O.kp0 kp))⟩
              have O63 := O.call0 g56
              have S_ := g56.f
              have f_tree := f_tree.mono S_
              have f_rule := f_rule.mono S_
              have O64 := O.got O63 rfl hn59 hf60 h61
              have z65 := O.was hn59
              obtain ⟨F66, O67, S68, h69⟩ := O64.frzE 0 rfl z65
              have f_tree := f_tree.mono S68
              have f_rule := f_rule.mono S68
              have hl62 := hl62.mono S68
              have h70 := R.lst (a := Int) h69 hl62
              exact hk _ _  O67.g  _
            · have hk := wp_el hk q51
              refine ⟨_, rfl, _, _, R.int, R.int, _, rfl, ?_⟩
              refine iteD (fun q71 => ?_) (fun q71 => ?_)
              · have hk := wp_if hk q71
                refine ⟨_, rfl, _, rfl, _, _, _, _, _, rfl, O.pre0, f_tree, f_rule, wp_call hk (fun r72 er73 hk F74 H75 g76 p77 w78 hn79 hf80 h81 hl82 => ?_) (fun n hn C H1 hC kp => hn C H1 hC (O.kp0 kp))⟩
                have O83 := O.call0 g76
                have S_ := g76.f
                have f_tree := f_tree.mono S_
                have f_rule := f_rule.mono S_
                have O84 := O.got O83 rfl hn79 hf80 h81
                have z85 := O.was hn79
                obtain ⟨F86, O87, S88, h89⟩ := O84.frzE 0 rfl z85
                have f_tree := f_tree.mono S88
                have f_rule := f_rule.mono S88
                have hl82 := hl82.mono S88
                have h90 := R.lst (a := Int) h89 hl82
                exact hk _ _  O87.g  _
              · have hk := wp_el hk q71
                refine ⟨_, rfl, _, rfl, _, _, _, _, _, rfl, O.pre0, f_tree, f_rule, wp_call hk (fun r91 er92 hk F93 H94 g95 p96 w97 hn98 hf99 h100 hl101 => ?_) (fun n hn C H1 hC kp => hn C H1 hC (O.kp0 kp))⟩
                have O102 := O.call0 g95
                have S_ := g95.f
                have f_tree := f_tree.mono S_
                have f_rule := f_rule.mono S_
                have O103 := O.got O102 rfl hn98 hf99 h100
                have z104 := O.was hn98
                obtain ⟨F105, O106, S107, h108⟩ := O103.frzE 0 rfl z104
                have f_tree := f_tree.mono S107
                have f_rule := f_rule.mono S107
                have hl101 := hl101.mono S107
                have h109 := R.lst (a := Int) h108 hl101
                exact hk _ _  O106.g  _
abbrev s_law_refused : Stmt := top 53
theorem sc_law_refused : FnScope ["tree", "rule", "place", "way", "caught", "e"] ["tree", "rule", "place", "way"] (defScope s_law_refused) := ⟨rfl, rfl, rfl, by decide +kernel, rfl, by decide +kernel, by decide +kernel⟩
def m_law_refused (x_tree : ((List Int) × (List (T3 Int Int Int)))) (x_rule : (T4 (List Sm) (List Sm) (List Sm) Sm)) (x_place : Int) (x_way : Int) : M (Bool) :=
tryK ["NoPlace", "NoRule"] (
m_law_asked x_tree x_rule x_place x_way >>= fun r1 =>
.ok ()) (
.ok false) (fun n_ => if n_ = "NoPlace" then (
.ok false)
else (
if n_ = "NoRule" then (
.ok true)
else (
bad)))
def sp_law_refused (mg : Str → Option Value) : Sp := fun vs H Q E => ∃ (F : Hp) (v_tree : V) (x_tree : ((List Int) × (List (T3 Int Int Int)))) (v_rule : V) (x_rule : (T4 (List Sm) (List Sm) (List Sm) Sm)) (x_place : Int) (x_way : Int), vs = [v_tree, v_rule, V.int x_place, V.int x_way] ∧ Pre F [] H ∧ R (a := ((List Int) × (List (T3 Int Int Int)))) F v_tree x_tree ∧ R (a := (T4 (List Sm) (List Sm) (List Sm) Sm)) F v_rule x_rule ∧
  wp (m_law_refused x_tree x_rule x_place x_way) (fun r => ∀ (F' H' : Hp), Gr [] F H F' H' → Q (V.bl r) H')
  (fun n => ∀ (C : Addr) (H' : Hp), mg (Str.ofString n) = some (.ref C) → Kp [] H H' → E (.ref C) none H')
set_option maxHeartbeats 2000000 in
theorem ok_law_refused (nb : Nb mg) (C_law_asked : Ca P w K mg base "_law_asked" 78 ["tree", "rule", "place", "way"] (sp_law_asked mg)) (EX : ExAll K mg) (D : Df K mg "_law_refused" "_law_refused" s_law_refused ["tree", "rule", "place", "way"]) : Ca P w K mg base "_law_refused" 79 ["tree", "rule", "place", "way"] (sp_law_refused mg) := by
  obtain ⟨fa_law_asked, fd_law_asked, G_law_asked, M_law_asked, K_law_asked, B_law_asked⟩ := C_law_asked.ex
  obtain ⟨C_SeatError, C_NoPlace, C_NoRule, C_NoForm, C_NoLength, C_NoName, C_NoOrder, C_NoPaper, C_NoText, C_NoTie, C_NoTree, XX⟩ := EX.ex
  refine Ca.mk' D sc_law_refused (fun vs H Q E h => ?_) (fun q_ f_ cdv A outer s H vs Q E hr h => ?_)
  · obtain ⟨F, _, _, _, _, _, _, rfl, _⟩ := h
    rfl
  · obtain ⟨F, v_tree, x_tree, v_rule, x_rule, x_place, x_way, rfl, P0, f_tree, f_rule, hk⟩ := h
    have nd := sc_law_refused.nd
    have hu64 := hr.units
    have hu128 := hu128_of hr
    have O := P0.start
    refine ⟨_, (pss_cons (ps_set (i := 4) nd rfl (Or.inl rfl) pe_non)
  (pss_cons (ps_try_keep (i := 5) rfl rfl rfl nd rfl rfl ⟨by rfl, by decide +kernel, .inl XX.g_SeatError⟩ (takes_of rfl rfl rfl rfl) (fun W_ pn_ xe_ tk_ pas_ => (pss_one (ps_expr (pe_callW G_law_asked (hr.mono (by decide)) rfl M_law_asked K_law_asked B_law_asked tk_ (pa_cons (pv 0) (pa_cons (pv 1) (pa_cons (pv 2) (pa_cons (pv 3) pa_nil)))))))) (fun a_ o_ pn_ => (pss_one (ps_set (i := 4) nd rfl (Or.inl rfl) (pv 5)))))
  (pss_cons (ps_if (pt_val (pe_callB (isutK (K := K) rfl) (by rfl) nb.b_isinstance (by decide +kernel) (pa_cons (pv 4) (pa_cons (pe_tup (pa_cons (C8.pe_gc (v := .ref C_NoForm) (by rfl) ⟨_, XX.g_NoForm, rfl⟩) (pa_cons (C8.pe_gc (v := .ref C_NoLength) (by rfl) ⟨_, XX.g_NoLength, rfl⟩) (pa_cons (C8.pe_gc (v := .ref C_NoName) (by rfl) ⟨_, XX.g_NoName, rfl⟩) (pa_cons (C8.pe_gc (v := .ref C_NoOrder) (by rfl) ⟨_, XX.g_NoOrder, rfl⟩) (pa_cons (C8.pe_gc (v := .ref C_NoPaper) (by rfl) ⟨_, XX.g_NoPaper, rfl⟩) (pa_cons (C8.pe_gc (v := .ref C_NoPlace) (by rfl) ⟨_, XX.g_NoPlace, rfl⟩) (pa_cons (C8.pe_gc (v := .ref C_NoText) (by rfl) ⟨_, XX.g_NoText, rfl⟩) (pa_cons (C8.pe_gc (v := .ref C_NoTie) (by rfl) ⟨_, XX.g_NoTie, rfl⟩) (pa_cons (C8.pe_gc (v := .ref C_NoTree) (by rfl) ⟨_, XX.g_NoTree, rfl⟩) pa_nil)))))))))) pa_nil)))) (pss_one (ps_ret pe_bl)) pss_nil)
  (pss_one (ps_ret (pe_and (pe_callB (isuK (K := K) rfl) (by rfl) nb.b_isinstance (by decide +kernel) (pa_cons (pv 4) (pa_cons (C8.pe_gc (v := .ref C_NoRule) (by rfl) ⟨_, XX.g_NoRule, rfl⟩) pa_nil))) (pe_one (pe_callB (isuK (K := K) rfl) (by rfl) nb.b_isinstance (by decide +kernel) (pa_cons (pv 4) (pa_cons (pe_bltn (v := .ty "ValueError") (by rfl) nb.b_ValueError (by decide +kernel) rfl) pa_nil)))))))))), ?_⟩
    have hk := wp_tryK hk
    refine ⟨_, rfl, _, rfl, _, rfl, _, rfl, _, _, _, _, _, _, _, rfl, O.pre0, f_tree, f_rule, wp_call hk (fun r1 er2 hk F3 H4 g5 v6 => ?_) (fun n_ hn_ C_ H1_ hC_ kp_ => ?_)⟩
    · have O7 := O.call0 g5
      have S_ := g5.f
      have f_tree := f_tree.mono S_
      have f_rule := f_rule.mono S_
      have hk := wp_okE hk
      refine ⟨_, rfl, (by show 9 ≤ sizeLine; decide), fun p8 hp9 => ?_⟩
      obtain ⟨F10, O11, S12, h13⟩ := O7.putE hp9 (.tup [V.ref C_NoForm, V.ref C_NoLength, V.ref C_NoName, V.ref C_NoOrder, V.ref C_NoPaper, V.ref C_NoPlace, V.ref C_NoText, V.ref C_NoTie, V.ref C_NoTree])
      have f_tree := f_tree.mono S12
      have f_rule := f_rule.mono S12
      refine ⟨_, _, _, _, _, false, rfl, (O11.s _ _ h13), (.cons (.own _) (.cons (.own _) (.cons (.own _) (.cons (.own _) (.cons (.own _) (.cons (.own _) (.cons (.own _) (.cons (.own _) (.cons (.own _) .nil))))))))), (.base (.base .non)), (any_no (kit_own XX.d_NoForm XX.t_NoForm XX.n_NoForm XX.s_NoForm_NoForm) (any_no (kit_own XX.d_NoLength XX.t_NoLength XX.n_NoLength XX.s_NoLength_NoLength) (any_no (kit_own XX.d_NoName XX.t_NoName XX.n_NoName XX.s_NoName_NoName) (any_no (kit_own XX.d_NoOrder XX.t_NoOrder XX.n_NoOrder XX.s_NoOrder_NoOrder) (any_no (kit_own XX.d_NoPaper XX.t_NoPaper XX.n_NoPaper XX.s_NoPaper_NoPaper) (any_no (kit_own XX.d_NoPlace XX.t_NoPlace XX.n_NoPlace XX.s_NoPlace_NoPlace) (any_no (kit_own XX.d_NoText XX.t_NoText XX.n_NoText XX.s_NoText_NoText) (any_no (kit_own XX.d_NoTie XX.t_NoTie XX.n_NoTie XX.s_NoTie_NoTie) (any_no (kit_own XX.d_NoTree XX.t_NoTree XX.n_NoTree XX.s_NoTree_NoTree) kitAny_nil))))))))), _, rfl, ?_⟩
      refine iteF ?_
      refine ⟨_, rfl, _, _, _, _, false, rfl, (.own _), (.base (.base .non)), (kit_own XX.d_NoRule XX.t_NoRule XX.n_NoRule XX.s_NoRule_NoRule), _, rfl, ?_⟩
      refine iteF ?_
      exact hk _ _  O11.g 
    · obtain ⟨hm_, hk⟩ := hn_
      rcases mem2 hm_ with rfl | rfl
      · have hk := wp_if hk rfl
        have eC_ := XX.g_NoPlace.symm.trans hC_
        cases eC_
        have O14 := O.exc kp_
        refine ⟨true, PySem.W.exm_ref XX.b_SeatError XX.d_SeatError XX.t_SeatError XX.s_NoPlace_SeatError, fun _ a15 ha16 => ?_, fun z => nomatch z⟩
        refine ⟨_, rfl, ?_⟩
        obtain ⟨F17, O18, S19, h20⟩ := O14.putE ha16 (excO (.ref C_NoPlace) none a15)
        have f_tree := f_tree.mono S19
        have f_rule := f_rule.mono S19
        refine ⟨_, rfl, (by show 9 ≤ sizeLine; decide), fun p21 hp22 => ?_⟩
        obtain ⟨F23, O24, S25, h26⟩ := O18.putE hp22 (.tup [V.ref C_NoForm, V.ref C_NoLength, V.ref C_NoName, V.ref C_NoOrder, V.ref C_NoPaper, V.ref C_NoPlace, V.ref C_NoText, V.ref C_NoTie, V.ref C_NoTree])
        have f_tree := f_tree.mono S25
        have f_rule := f_rule.mono S25
        have h20 := S25 _ _ h20
        refine ⟨_, _, _, _, _, true, rfl, (O24.s _ _ h26), (.cons (.own _) (.cons (.own _) (.cons (.own _) (.cons (.own _) (.cons (.own _) (.cons (.own _) (.cons (.own _) (.cons (.own _) (.cons (.own _) .nil))))))))), (.exc (O24.s _ _ h20) XX.e_NoPlace), (any_no (kit_own XX.d_NoForm XX.t_NoForm XX.s_NoPlace_NoForm XX.s_NoForm_NoForm) (any_no (kit_own XX.d_NoLength XX.t_NoLength XX.s_NoPlace_NoLength XX.s_NoLength_NoLength) (any_no (kit_own XX.d_NoName XX.t_NoName XX.s_NoPlace_NoName XX.s_NoName_NoName) (any_no (kit_own XX.d_NoOrder XX.t_NoOrder XX.s_NoPlace_NoOrder XX.s_NoOrder_NoOrder) (any_no (kit_own XX.d_NoPaper XX.t_NoPaper XX.s_NoPlace_NoPaper XX.s_NoPaper_NoPaper) (any_yes (kit_own XX.d_NoPlace XX.t_NoPlace XX.s_NoPlace_NoPlace XX.s_NoPlace_NoPlace))))))), _, rfl, ?_⟩
        refine iteT ?_
        exact hk _ _  O24.g 
      · have hk := wp_el hk (by decide)
        have hk := wp_if hk rfl
        have eC_ := XX.g_NoRule.symm.trans hC_
        cases eC_
        have O27 := O.exc kp_
        refine ⟨true, PySem.W.exm_ref XX.b_SeatError XX.d_SeatError XX.t_SeatError XX.s_NoRule_SeatError, fun _ a28 ha29 => ?_, fun z => nomatch z⟩
        refine ⟨_, rfl, ?_⟩
        obtain ⟨F30, O31, S32, h33⟩ := O27.putE ha29 (excO (.ref C_NoRule) none a28)
        have f_tree := f_tree.mono S32
        have f_rule := f_rule.mono S32
        refine ⟨_, rfl, (by show 9 ≤ sizeLine; decide), fun p34 hp35 => ?_⟩
        obtain ⟨F36, O37, S38, h39⟩ := O31.putE hp35 (.tup [V.ref C_NoForm, V.ref C_NoLength, V.ref C_NoName, V.ref C_NoOrder, V.ref C_NoPaper, V.ref C_NoPlace, V.ref C_NoText, V.ref C_NoTie, V.ref C_NoTree])
        have f_tree := f_tree.mono S38
        have f_rule := f_rule.mono S38
        have h33 := S38 _ _ h33
        refine ⟨_, _, _, _, _, false, rfl, (O37.s _ _ h39), (.cons (.own _) (.cons (.own _) (.cons (.own _) (.cons (.own _) (.cons (.own _) (.cons (.own _) (.cons (.own _) (.cons (.own _) (.cons (.own _) .nil))))))))), (.exc (O37.s _ _ h33) XX.e_NoRule), (any_no (kit_own XX.d_NoForm XX.t_NoForm XX.s_NoRule_NoForm XX.s_NoForm_NoForm) (any_no (kit_own XX.d_NoLength XX.t_NoLength XX.s_NoRule_NoLength XX.s_NoLength_NoLength) (any_no (kit_own XX.d_NoName XX.t_NoName XX.s_NoRule_NoName XX.s_NoName_NoName) (any_no (kit_own XX.d_NoOrder XX.t_NoOrder XX.s_NoRule_NoOrder XX.s_NoOrder_NoOrder) (any_no (kit_own XX.d_NoPaper XX.t_NoPaper XX.s_NoRule_NoPaper XX.s_NoPaper_NoPaper) (any_no (kit_own XX.d_NoPlace XX.t_NoPlace XX.s_NoRule_NoPlace XX.s_NoPlace_NoPlace) (any_no (kit_own XX.d_NoText XX.t_NoText XX.s_NoRule_NoText XX.s_NoText_NoText) (any_no (kit_own XX.d_NoTie XX.t_NoTie XX.s_NoRule_NoTie XX.s_NoTie_NoTie) (any_no (kit_own XX.d_NoTree XX.t_NoTree XX.s_NoRule_NoTree XX.s_NoTree_NoTree) kitAny_nil))))))))), _, rfl, ?_⟩
        refine iteF ?_
        refine ⟨_, rfl, _, _, _, _, true, rfl, (.own _), (.exc (O37.s _ _ h33) XX.e_NoRule), (kit_own XX.d_NoRule XX.t_NoRule XX.s_NoRule_NoRule XX.s_NoRule_NoRule), _, rfl, ?_⟩
        refine iteT ?_
        refine ⟨_, rfl, _, _, _, _, true, rfl, (.ty _), (.exc (O37.s _ _ h33) XX.e_NoRule), (kit_blt (by decide +kernel) XX.v_NoRule), ?_⟩
        exact hk _ _  O37.g 
abbrev s_law_bad_rule : Stmt := top 54
theorem sc_law_bad_rule : FnScope ["deck", "rule", "parts", "many", "far", "at", "bad", "told", "way", "part"] ["deck", "rule"] (defScope s_law_bad_rule) := ⟨rfl, rfl, rfl, by decide +kernel, rfl, by decide +kernel, by decide +kernel⟩
def m_law_bad_rule (x_deck : (List Int)) (x_rule : (T4 (List Sm) (List Sm) (List Sm) Sm)) : M ((T4 (List Sm) (List Sm) (List Sm) Sm) × (List Int)) :=
compS (fun (y20 : (List Sm)) (st37 : Unit) =>
.ok (some y20, ())) ([x_rule.a, x_rule.b, x_rule.c]) () >>= fun q66 =>
opt (atI q66.1 (0 : Int)) >>= fun y67 =>
m_law_take x_deck (3 : Int) >>= fun r83 =>
opt (atI ([(1 : Int), (3 : Int), ((10 : Int) ^ Int.toNat (20 : Int))]) r83.1) >>= fun y97 =>
m_law_take r83.2 y97 >>= fun r102 =>
m_law_take r102.2 (4 : Int) >>= fun r111 =>
ret ([[(Sm.nam ("tie" : Str)), (Sm.num (("so" : Str), (0 : Int)).1 (("so" : Str), (0 : Int)).2), (Sm.num (("more" : Str), (0 : Int)).1 (("more" : Str), (0 : Int)).2)], [(Sm.num (("so" : Str), (0 : Int)).1 (("so" : Str), (0 : Int)).2), (Sm.num (("more" : Str), ((y67.length : Int) + r102.1)).1 (("more" : Str), ((y67.length : Int) + r102.1)).2), (Sm.num (("more" : Str), ((-(1 : Int)) - r102.1)).1 (("more" : Str), ((-(1 : Int)) - r102.1)).2)]]) >>= fun n186 =>
chk (n186.length + ([[(Sm.nam ("tie" : Str)), (Sm.num (("so" : Str), ((y67.length : Int) + r102.1)).1 (("so" : Str), ((y67.length : Int) + r102.1)).2), (Sm.num (("more" : Str), ((-(1 : Int)) - r102.1)).1 (("more" : Str), ((-(1 : Int)) - r102.1)).2)], [(Sm.nam ("tie" : Str)), (Sm.num (("more" : Str), (0 : Int)).1 (("more" : Str), (0 : Int)).2), (Sm.num (("so" : Str), ((-(1 : Int)) - r102.1)).1 (("so" : Str), ((-(1 : Int)) - r102.1)).2)]]).length < 16777216) >>= fun _ =>
ret (n186 ++ ([[(Sm.nam ("tie" : Str)), (Sm.num (("so" : Str), ((y67.length : Int) + r102.1)).1 (("so" : Str), ((y67.length : Int) + r102.1)).2), (Sm.num (("more" : Str), ((-(1 : Int)) - r102.1)).1 (("more" : Str), ((-(1 : Int)) - r102.1)).2)], [(Sm.nam ("tie" : Str)), (Sm.num (("more" : Str), (0 : Int)).1 (("more" : Str), (0 : Int)).2), (Sm.num (("so" : Str), ((-(1 : Int)) - r102.1)).1 (("so" : Str), ((-(1 : Int)) - r102.1)).2)]])) >>= fun n274 =>
opt (atI n274 r111.1) >>= fun y282 =>
m_law_take r111.2 (3 : Int) >>= fun r287 =>
opt (atI y282 r287.1) >>= fun y301 =>
m_law_take r287.2 (2 : Int) >>= fun r306 =>
if r306.1 = (0 : Int) then (
m_law_take r306.2 (5 : Int) >>= fun r346 =>
if r346.1 = (0 : Int) then (
m_law_take r346.2 (3 : Int) >>= fun r356 =>
opt (atI q66.1 r356.1) >>= fun y365 =>
appL y365 (Sm.num (("number" : Str), (0 : Int)).1 (("number" : Str), (0 : Int)).2) >>= fun _ =>
setI q66.1 r356.1 (y365 ++ [(Sm.num (("number" : Str), (0 : Int)).1 (("number" : Str), (0 : Int)).2)]) >>= fun z386 =>
opt (atI z386 (0 : Int)) >>= fun y396 =>
opt (atI z386 (1 : Int)) >>= fun y406 =>
opt (atI z386 (2 : Int)) >>= fun y416 =>
.ok ((T4.mk y396 y406 y416 x_rule.d), r356.2))
else (
if r346.1 = (1 : Int) then (
compS (fun (y438 : (List Sm)) (st455 : Unit) =>
chk (CRep ([(Sm.num (("number" : Str), (1 : Int)).1 (("number" : Str), (1 : Int)).2)]).length ((4 : Int) - (y67.length : Int))) >>= fun _ =>
chk (y438.length + (repL ((4 : Int) - (y67.length : Int)) ([(Sm.num (("number" : Str), (1 : Int)).1 (("number" : Str), (1 : Int)).2)])).length < 16777216) >>= fun _ =>
.ok (some (y438 ++ (repL ((4 : Int) - (y67.length : Int)) ([(Sm.num (("number" : Str), (1 : Int)).1 (("number" : Str), (1 : Int)).2)]))), ())) q66.1 () >>= fun q520 =>
opt (atI q520.1 (0 : Int)) >>= fun y531 =>
opt (atI q520.1 (1 : Int)) >>= fun y541 =>
opt (atI q520.1 (2 : Int)) >>= fun y551 =>
.ok ((T4.mk y531 y541 y551 x_rule.d), r346.2))
else (
if r346.1 = (2 : Int) then (
opt (atI ([([] : List Sm), ([] : List Sm), ([] : List Sm)]) (0 : Int)) >>= fun y605 =>
opt (atI ([([] : List Sm), ([] : List Sm), ([] : List Sm)]) (1 : Int)) >>= fun y615 =>
opt (atI ([([] : List Sm), ([] : List Sm), ([] : List Sm)]) (2 : Int)) >>= fun y625 =>
.ok ((T4.mk y605 y615 y625 x_rule.d), r346.2))
else (
if r111.1 = (3 : Int) then (
opt (atI q66.1 (0 : Int)) >>= fun y647 =>
opt (atI q66.1 (1 : Int)) >>= fun y657 =>
opt (atI q66.1 (2 : Int)) >>= fun y667 =>
.ok ((T4.mk y647 y657 y667 (Sm.two (T3.mk ("most" : Str) (Sm.num (("number" : Str), (1 : Int)).1 (("number" : Str), (1 : Int)).2) (Sm.two (T3.mk ("plus" : Str) y301 (Sm.nam ("own" : Str))).a (T3.mk ("plus" : Str) y301 (Sm.nam ("own" : Str))).b (T3.mk ("plus" : Str) y301 (Sm.nam ("own" : Str))).c)).a (T3.mk ("most" : Str) (Sm.num (("number" : Str), (1 : Int)).1 (("number" : Str), (1 : Int)).2) (Sm.two (T3.mk ("plus" : Str) y301 (Sm.nam ("own" : Str))).a (T3.mk ("plus" : Str) y301 (Sm.nam ("own" : Str))).b (T3.mk ("plus" : Str) y301 (Sm.nam ("own" : Str))).c)).b (T3.mk ("most" : Str) (Sm.num (("number" : Str), (1 : Int)).1 (("number" : Str), (1 : Int)).2) (Sm.two (T3.mk ("plus" : Str) y301 (Sm.nam ("own" : Str))).a (T3.mk ("plus" : Str) y301 (Sm.nam ("own" : Str))).b (T3.mk ("plus" : Str) y301 (Sm.nam ("own" : Str))).c)).c)), r346.2))
else (
opt (atI q66.1 r111.1) >>= fun y680 =>
m_law_take r346.2 (y67.length : Int) >>= fun r688 =>
setI y680 r688.1 (Sm.two (T3.mk ("most" : Str) (Sm.num (("number" : Str), (1 : Int)).1 (("number" : Str), (1 : Int)).2) (Sm.two (T3.mk ("plus" : Str) y301 (Sm.nam ("own" : Str))).a (T3.mk ("plus" : Str) y301 (Sm.nam ("own" : Str))).b (T3.mk ("plus" : Str) y301 (Sm.nam ("own" : Str))).c)).a (T3.mk ("most" : Str) (Sm.num (("number" : Str), (1 : Int)).1 (("number" : Str), (1 : Int)).2) (Sm.two (T3.mk ("plus" : Str) y301 (Sm.nam ("own" : Str))).a (T3.mk ("plus" : Str) y301 (Sm.nam ("own" : Str))).b (T3.mk ("plus" : Str) y301 (Sm.nam ("own" : Str))).c)).b (T3.mk ("most" : Str) (Sm.num (("number" : Str), (1 : Int)).1 (("number" : Str), (1 : Int)).2) (Sm.two (T3.mk ("plus" : Str) y301 (Sm.nam ("own" : Str))).a (T3.mk ("plus" : Str) y301 (Sm.nam ("own" : Str))).b (T3.mk ("plus" : Str) y301 (Sm.nam ("own" : Str))).c)).c) >>= fun z699 =>
setI q66.1 r111.1 z699 >>= fun z705 =>
opt (atI z705 (0 : Int)) >>= fun y715 =>
opt (atI z705 (1 : Int)) >>= fun y725 =>
opt (atI z705 (2 : Int)) >>= fun y735 =>
.ok ((T4.mk y715 y725 y735 x_rule.d), r688.2))))))
else (
m_law_take r306.2 (5 : Int) >>= fun r747 =>
if r747.1 = (0 : Int) then (
m_law_take r747.2 (3 : Int) >>= fun r757 =>
opt (atI q66.1 r757.1) >>= fun y766 =>
appL y766 (Sm.num (("number" : Str), (0 : Int)).1 (("number" : Str), (0 : Int)).2) >>= fun _ =>
setI q66.1 r757.1 (y766 ++ [(Sm.num (("number" : Str), (0 : Int)).1 (("number" : Str), (0 : Int)).2)]) >>= fun z787 =>
opt (atI z787 (0 : Int)) >>= fun y797 =>
opt (atI z787 (1 : Int)) >>= fun y807 =>
opt (atI z787 (2 : Int)) >>= fun y817 =>
.ok ((T4.mk y797 y807 y817 x_rule.d), r757.2))
else (
if r747.1 = (1 : Int) then (
compS (fun (y839 : (List Sm)) (st856 : Unit) =>
chk (CRep ([(Sm.num (("number" : Str), (1 : Int)).1 (("number" : Str), (1 : Int)).2)]).length ((4 : Int) - (y67.length : Int))) >>= fun _ =>
chk (y839.length + (repL ((4 : Int) - (y67.length : Int)) ([(Sm.num (("number" : Str), (1 : Int)).1 (("number" : Str), (1 : Int)).2)])).length < 16777216) >>= fun _ =>
.ok (some (y839 ++ (repL ((4 : Int) - (y67.length : Int)) ([(Sm.num (("number" : Str), (1 : Int)).1 (("number" : Str), (1 : Int)).2)]))), ())) q66.1 () >>= fun q921 =>
opt (atI q921.1 (0 : Int)) >>= fun y932 =>
opt (atI q921.1 (1 : Int)) >>= fun y942 =>
opt (atI q921.1 (2 : Int)) >>= fun y952 =>
.ok ((T4.mk y932 y942 y952 x_rule.d), r747.2))
else (
if r747.1 = (2 : Int) then (
opt (atI ([([] : List Sm), ([] : List Sm), ([] : List Sm)]) (0 : Int)) >>= fun y1006 =>
opt (atI ([([] : List Sm), ([] : List Sm), ([] : List Sm)]) (1 : Int)) >>= fun y1016 =>
opt (atI ([([] : List Sm), ([] : List Sm), ([] : List Sm)]) (2 : Int)) >>= fun y1026 =>
.ok ((T4.mk y1006 y1016 y1026 x_rule.d), r747.2))
else (
if r111.1 = (3 : Int) then (
opt (atI q66.1 (0 : Int)) >>= fun y1048 =>
opt (atI q66.1 (1 : Int)) >>= fun y1058 =>
opt (atI q66.1 (2 : Int)) >>= fun y1068 =>
.ok ((T4.mk y1048 y1058 y1068 y301), r747.2))
else (
opt (atI q66.1 r111.1) >>= fun y1080 =>
m_law_take r747.2 (y67.length : Int) >>= fun r1088 =>
setI y1080 r1088.1 y301 >>= fun z1099 =>
setI q66.1 r111.1 z1099 >>= fun z1105 =>
opt (atI z1105 (0 : Int)) >>= fun y1115 =>
opt (atI z1105 (1 : Int)) >>= fun y1125 =>
opt (atI z1105 (2 : Int)) >>= fun y1135 =>
.ok ((T4.mk y1115 y1125 y1135 x_rule.d), r1088.2))))))
def sp_law_bad_rule (mg : Str → Option Value) : Sp := fun vs H Q E => ∃ (F : Hp) (a_deck : Addr) (w_deck : (List V)) (x_deck : (List Int)) (v_rule : V) (x_rule : (T4 (List Sm) (List Sm) (List Sm) Sm)), vs = [.ref a_deck, v_rule] ∧ Pre F [(a_deck, .lst w_deck)] H ∧ RL (a := Int) F w_deck x_deck ∧ R (a := (T4 (List Sm) (List Sm) (List Sm) Sm)) F v_rule x_rule ∧
  wp (m_law_bad_rule x_deck x_rule) (fun r => ∀ (F' H' : Hp) (w0 : (List V)), Gr [a_deck] F H F' H' → H' a_deck = some (.lst w0) → RL (a := Int) F' w0 r.2 → ∀ v : V, R (a := (T4 (List Sm) (List Sm) (List Sm) Sm)) F' v r.1 → Q v H')
  (fun n => ∀ (C : Addr) (H' : Hp), mg (Str.ofString n) = some (.ref C) → Kp [a_deck] H H' → E (.ref C) none H')
set_option maxHeartbeats 2000000 in
theorem ok_law_bad_rule (nb : Nb mg) (C_law_take : Ca P w K mg base "_law_take" 1 ["deck", "many"] (sp_law_take mg)) (D : Df K mg "_law_bad_rule" "_law_bad_rule" s_law_bad_rule ["deck", "rule"]) : Ca P w K mg base "_law_bad_rule" 2 ["deck", "rule"] (sp_law_bad_rule mg) := by
  obtain ⟨fa_law_take, fd_law_take, G_law_take, M_law_take, K_law_take, B_law_take⟩ := C_law_take.ex
  refine Ca.mk' D sc_law_bad_rule (fun vs H Q E h => ?_) (fun q_ f_ cdv A outer s H vs Q E hr h => ?_)
  · obtain ⟨F, _, _, _, _, _, rfl, _⟩ := h
    rfl
  · obtain ⟨F, a_deck, w_deck, x_deck, v_rule, x_rule, rfl, P0, f_deck, f_rule, hk⟩ := h
    have nd := sc_law_bad_rule.nd
    have hu64 := hr.units
    have hu128 := hu128_of hr
    have O := P0.start
    refine ⟨_, (pss_cons (ps_setLc (i := 2) (own := [("part", 9)]) (g := gName 9) (tt := _) rfl nd rfl rfl (sw_true rfl rfl rfl (by decide +kernel)) (piTupK (K := K) rfl (pe_slice (slTupK (K := K) rfl) (pv 1) po_none (po_some pe_int))) (blkOk_by (own := [("part", 9)]) (N := ["deck", "rule", "parts", "many", "far", "at", "bad", "told", "way", "part"]) (sc := defScope s_law_bad_rule) (by decide +kernel)) (fun _ _ _ _ _ => (pg_name (i := 9) nd rfl (Or.inl rfl))) (fun _ _ _ _ _ => pts_nil) (fun _ _ _ _ _ => (pe_callTy (listOfK (K := K) rfl) (by rfl) nb.b_list (by decide +kernel) (pa_cons (pv 9) pa_nil))))
  (pss_cons (ps_set (i := 3) nd rfl (Or.inr rfl) (pe_callB call_lenT (by rfl) nb.b_len PySem.boot_len (pa_cons (pe_ix (ixListK (K := K) rfl) (pv 2) pe_int (fun _ _ => rfl)) pa_nil)))
  (pss_cons (ps_set (i := 4) nd rfl (Or.inl rfl) (pe_call G_law_take (hr.mono (by decide)) rfl M_law_take K_law_take B_law_take .nil (passes_call (takes_of rfl rfl rfl rfl) fun _ _ _ _ h => h) (pa_cons (pv 0) (pa_cons (pe_ix (ixListK (K := K) rfl) (pe_lst (pa_cons pe_int (pa_cons pe_int (pa_cons (pe_op op_pow pe_int pe_int) pa_nil)))) (pe_call G_law_take (hr.mono (by decide)) rfl M_law_take K_law_take B_law_take .nil (passes_call (takes_of rfl rfl rfl rfl) fun _ _ _ _ h => h) (pa_cons (pv 0) (pa_cons pe_int pa_nil))) (fun _ _ => rfl)) pa_nil))))
  (pss_cons (ps_set (i := 5) nd rfl (Or.inl rfl) (pe_call G_law_take (hr.mono (by decide)) rfl M_law_take K_law_take B_law_take .nil (passes_call (takes_of rfl rfl rfl rfl) fun _ _ _ _ h => h) (pa_cons (pv 0) (pa_cons pe_int pa_nil))))
  (pss_cons (ps_set (i := 6) nd rfl (Or.inl rfl) (pe_lst (pa_cons (pe_lst (pa_cons (pe_tup (pa_cons pe_str pa_nil)) (pa_cons (pe_tup (pa_cons pe_str (pa_cons pe_int pa_nil))) (pa_cons (pe_tup (pa_cons pe_str (pa_cons pe_int pa_nil))) pa_nil)))) (pa_cons (pe_lst (pa_cons (pe_tup (pa_cons pe_str (pa_cons pe_int pa_nil))) (pa_cons (pe_tup (pa_cons pe_str (pa_cons (pe_op op_add (pv 3) (pv 4)) pa_nil))) (pa_cons (pe_tup (pa_cons pe_str (pa_cons (pe_op op_sub (pe_un un_neg pe_int) (pv 4)) pa_nil))) pa_nil)))) pa_nil))))
  (pss_cons (ps_set (i := 6) nd rfl (Or.inl rfl) (pe_op op_cat (pv 6) (pe_lst (pa_cons (pe_lst (pa_cons (pe_tup (pa_cons pe_str pa_nil)) (pa_cons (pe_tup (pa_cons pe_str (pa_cons (pe_op op_add (pv 3) (pv 4)) pa_nil))) (pa_cons (pe_tup (pa_cons pe_str (pa_cons (pe_op op_sub (pe_un un_neg pe_int) (pv 4)) pa_nil))) pa_nil)))) (pa_cons (pe_lst (pa_cons (pe_tup (pa_cons pe_str pa_nil)) (pa_cons (pe_tup (pa_cons pe_str (pa_cons pe_int pa_nil))) (pa_cons (pe_tup (pa_cons pe_str (pa_cons (pe_op op_sub (pe_un un_neg pe_int) (pv 4)) pa_nil))) pa_nil)))) pa_nil)))))
  (pss_cons (ps_set (i := 7) nd rfl (Or.inl rfl) (pe_ix (ixListK (K := K) rfl) (pe_ix (ixListK (K := K) rfl) (pv 6) (pv 5) (fun _ _ => rfl)) (pe_call G_law_take (hr.mono (by decide)) rfl M_law_take K_law_take B_law_take .nil (passes_call (takes_of rfl rfl rfl rfl) fun _ _ _ _ h => h) (pa_cons (pv 0) (pa_cons pe_int pa_nil))) (fun _ _ => rfl)))
  (pss_cons (ps_if (pt_cmpR (op_eqT Int hu64) (pe_call G_law_take (hr.mono (by decide)) rfl M_law_take K_law_take B_law_take .nil (passes_call (takes_of rfl rfl rfl rfl) fun _ _ _ _ h => h) (pa_cons (pv 0) (pa_cons pe_int pa_nil))) pe_int (nomark _)) (pss_one (ps_set (i := 7) nd rfl (Or.inl rfl) (pe_tup (pa_cons pe_str (pa_cons (pe_tup (pa_cons pe_str (pa_cons pe_int pa_nil))) (pa_cons (pe_tup (pa_cons pe_str (pa_cons (pv 7) (pa_cons (pe_tup (pa_cons pe_str pa_nil)) pa_nil)))) pa_nil)))))) pss_nil)
  (pss_cons (ps_set (i := 8) nd rfl (Or.inl rfl) (pe_call G_law_take (hr.mono (by decide)) rfl M_law_take K_law_take B_law_take .nil (passes_call (takes_of rfl rfl rfl rfl) fun _ _ _ _ h => h) (pa_cons (pv 0) (pa_cons pe_int pa_nil))))
  (pss_cons (ps_if (pt_cmpR (op_eqT Int hu64) (pv 8) pe_int (nomark _)) (pss_one (ps_expr (pe_bm PySem.F.plainAttrs_list PySem.F.slot_list_append PySem.F.type_list_append mt_append (pe_ix (ixListK (K := K) rfl) (pv 2) (pe_call G_law_take (hr.mono (by decide)) rfl M_law_take K_law_take B_law_take .nil (passes_call (takes_of rfl rfl rfl rfl) fun _ _ _ _ h => h) (pa_cons (pv 0) (pa_cons pe_int pa_nil))) (fun _ _ => rfl)) (pa_cons (pe_tup (pa_cons pe_str (pa_cons pe_int pa_nil))) pa_nil)))) (pss_one (ps_if (pt_cmpR (op_eqT Int hu64) (pv 8) pe_int (nomark _)) (pss_one (ps_setLc (i := 2) (own := [("part", 9)]) (g := gName 9) (tt := _) rfl nd rfl rfl (sw_true rfl rfl rfl (by decide +kernel)) (piListK (K := K) rfl (pv 2)) (blkOk_by (own := [("part", 9)]) (N := ["deck", "rule", "parts", "many", "far", "at", "bad", "told", "way", "part"]) (sc := defScope s_law_bad_rule) (by decide +kernel)) (fun _ _ _ _ _ => (pg_name (i := 9) nd rfl (Or.inl rfl))) (fun _ _ _ _ _ => pts_nil) (fun _ _ _ _ _ => (pe_op op_cat (pv 9) (pe_op op_rep (pe_lst (pa_cons (pe_tup (pa_cons pe_str (pa_cons pe_int pa_nil))) pa_nil)) (pe_op op_sub pe_int (pv 3))))))) (pss_one (ps_if (pt_cmpR (op_eqT Int hu64) (pv 8) pe_int (nomark _)) (pss_one (ps_set (i := 2) nd rfl (Or.inl rfl) (pe_lst (pa_cons (pe_lst pa_nil) (pa_cons (pe_lst pa_nil) (pa_cons (pe_lst pa_nil) pa_nil)))))) (pss_one (ps_if (pt_cmpR (op_eqT Int hu64) (pv 5) pe_int (nomark _)) (pss_one (ps_ret (pe_tup (pa_cons (pe_ix (ixListK (K := K) rfl) (pv 2) pe_int (fun _ _ => rfl)) (pa_cons (pe_ix (ixListK (K := K) rfl) (pv 2) pe_int (fun _ _ => rfl)) (pa_cons (pe_ix (ixListK (K := K) rfl) (pv 2) pe_int (fun _ _ => rfl)) (pa_cons (pv 7) pa_nil))))))) (pss_one (ps_asg (pv 7) (pg_sub (pe_ix (ixListK (K := K) rfl) (pv 2) (pv 5) (fun _ _ => rfl)) (pe_call G_law_take (hr.mono (by decide)) rfl M_law_take K_law_take B_law_take .nil (passes_call (takes_of rfl rfl rfl rfl) fun _ _ _ _ h => h) (pa_cons (pv 0) (pa_cons (pv 3) pa_nil))) set_list))))))))))
  (pss_one (ps_ret (pe_tup (pa_cons (pe_ix (ixListK (K := K) rfl) (pv 2) pe_int (fun _ _ => rfl)) (pa_cons (pe_ix (ixListK (K := K) rfl) (pv 2) pe_int (fun _ _ => rfl)) (pa_cons (pe_ix (ixListK (K := K) rfl) (pv 2) pe_int (fun _ _ => rfl)) (pa_cons (pe_ix (ixTupK (K := K) rfl) (pv 1) pe_int (fun _ _ => rfl)) pa_nil))))))))))))))))), ?_⟩
    obtain ⟨p2, v5, v6, v7, v8, e3, h4, r9, r10, r11, r12⟩ := R.t4_ f_rule
    cases e3
    refine ⟨_, rfl, _, rfl, _, _, rfl, (SqTF O.s h4), (sl43 _ _ _ _), fun p13 hp14 => ?_⟩
    obtain ⟨F15, O16, S17, h18⟩ := O.putE hp14 (.tup [v5, v6, v7])
    have f_deck := f_deck.mono S17
    have f_rule := f_rule.mono S17
    have h4 := S17 _ _ h4
    have r9 := r9.mono S17
    have r10 := r10.mono S17
    have r11 := r11.mono S17
    have r12 := r12.mono S17
    have hl19 : RL (a := (List Sm)) F15 [v5, v6, v7] [x_rule.a, x_rule.b, x_rule.c] := RL.cons r9 (RL.cons r10 (RL.cons r11 RL.nil))
    obtain ⟨c25, L21, hL22, hLs23, hLd24⟩ := compS_L hk
    refine ⟨_, rfl, ⟨_, (SqTF O16.s h18)⟩, fun p26 hp27 => ?_⟩
    have z54 := O16.was hp27
    refine lc_tup (K := K) (xs := [v5, v6, v7]) (fun i H_ => ∃ (F_ : Hp) (st : Unit) (acc : List (List Sm)) (ps_ : List LCV), Same F15 F_ ∧ Ow _ F_ ([(a_deck, .lst w_deck)] ++ llC p26 ps_) H_ ∧ LLR F_ ps_ acc ∧ (ps_.map fun c => V.ref c.1).length ≤ i ∧ (∀ c ∈ ps_, H c.1 = none) ∧ L21 (List.drop i ([x_rule.a, x_rule.b, x_rule.c])) acc st) ⟨F15, (), [], [], Same.refl _, Ow.llNew (S := [(a_deck, .lst w_deck)]) (O16.new hp27), .nil, Nat.zero_le _, (fun _ z => nomatch z), hL22⟩ (fun i_ H_ _ hp_ => ?_) ?_ ?_
    · obtain ⟨_, _, _, _, hS_, hO_, _⟩ := hp_
      exact SqTF hO_.s (hS_ _ _ h18)
    · rintro i28 x29 H30 hi31 ⟨F36, st37, acc33, wa34, S38, O40, hl39, la35, zs41, hL22⟩
      have f_deck := f_deck.mono S38
      have f_rule := f_rule.mono S38
      have h4 := S38 _ _ h4
      have r9 := r9.mono S38
      have r10 := r10.mono S38
      have r11 := r11.mono S38
      have r12 := r12.mono S38
      have h18 := S38 _ _ h18
      have hl19 := hl19.mono S38
      obtain ⟨y20, e42, r43⟩ := RL.got hl19 hi31
      rw [drop_at e42] at hL22
      have hk := hLs23 _ _ _ _ hL22
      refine ⟨rfl, ?_⟩
      obtain ⟨p44, w45, e46, h47, hl48⟩ := R.lst_ r43
      cases e46
      refine ⟨_, rfl, _, _, rfl, (.inl (SqLF O40.s h47)), fun p49 hp50 => ?_⟩
      have hl52 : RL (a := Sm) F36 w45 y20 := hl48
      have z53 := O40.was hp50
      have O51 := O40.new (o := .lst w45) hp50
      refine ⟨_, (Ow.llTop (S := [(p49, .lst w45), (a_deck, .lst w_deck)]) (p := p26) (ps := wa34) O51), (comp_len la35 hi31 hl19.len c25), ?_⟩
      exact ⟨F36, (), acc33 ++ [y20], wa34 ++ [(p49, w45)], S38, Ow.llPush (S := [(a_deck, .lst w_deck)]) (p := p26) (ps := wa34) O51, LLR.snoc hl39 hl52 _, by rw [List.map_append, List.length_append]; exact Nat.succ_le_succ la35, zs_snoc zs41 z53, hk⟩
    rintro H55 ⟨F56, st57, acc58, wa59, S60, O61, hl62, la63, zs65, hL64⟩
    rw [drop_end hl19.len] at hL64
    have hk := hLd24 _ _ hL64
    have f_deck := f_deck.mono S60
    have f_rule := f_rule.mono S60
    have h4 := S60 _ _ h4
    have r9 := r9.mono S60
    have r10 := r10.mono S60
    have r11 := r11.mono S60
    have r12 := r12.mono S60
    have h18 := S60 _ _ h18
    have hl19 := hl19.mono S60
    obtain ⟨y67, e68, hk⟩ := wp_opt hk
    obtain ⟨j69, c70, e71, hj72, hl73, hx74⟩ := LLR.atI hl62 e68
    refine ⟨_, rfl, _, _, _, _, rfl, rfl, (SqL.of (Ow.llTop (S := [(a_deck, .lst w_deck)]) (p := p26) (ps := wa59) O61)), e71, _, _, _, rfl, (.inl (Ow.llAt (S := [(a_deck, .lst w_deck)]) (p := p26) (ps := wa59) O61 hj72)), hl73.len, _, rfl, _, _, rfl, rfl, (by decide), (by show 3 ≤ sizeLine; decide), fun p75 hp76 => ?_⟩
    have hl82 : RL (a := Int) F56 ([V.int (1 : Int), V.int (3 : Int), V.int ((10 : Int) ^ Int.toNat (20 : Int))]) ([(1 : Int), (3 : Int), ((10 : Int) ^ Int.toNat (20 : Int))]) := RL.cons R.int (RL.cons R.int (RL.cons R.int RL.nil))
    obtain ⟨F77, O78, S79, h80⟩ := O61.putE hp76 (.lst ([V.int (1 : Int), V.int (3 : Int), V.int ((10 : Int) ^ Int.toNat (20 : Int))]))
    have f_deck := f_deck.mono S79
    have f_rule := f_rule.mono S79
    have h4 := S79 _ _ h4
    have r9 := r9.mono S79
    have r10 := r10.mono S79
    have r11 := r11.mono S79
    have r12 := r12.mono S79
    have h18 := S79 _ _ h18
    have hl19 := hl19.mono S79
    have hl62 := hl62.mono S79
    have hl73 := hl73.mono S79
    have hl82 := hl82.mono S79
    have h81 := R.lst (a := Int) h80 hl82
    refine ⟨_, rfl, _, _, _, _, _, rfl, (O78.pre1 0 rfl), f_deck, wp_call hk (fun r83 er84 hk F85 H86 w88 g87 h89 hl90 => ?_) (fun n hn C H1 hC kp => hn C H1 hC (O78.kp1 kp 0 rfl))⟩
    have O91 := O78.call1 g87 0 rfl h89
    have S_ := g87.f
    have f_rule := f_rule.mono S_
    have h4 := S_ _ _ h4
    have r9 := r9.mono S_
    have r10 := r10.mono S_
    have r11 := r11.mono S_
    have r12 := r12.mono S_
    have h18 := S_ _ _ h18
    have hl19 := hl19.mono S_
    have hl62 := hl62.mono S_
    have hl73 := hl73.mono S_
    have h81 := h81.mono S_
    obtain ⟨p92, w93, e94, h95, hl96⟩ := R.lst_ h81
    cases e94
    obtain ⟨y97, e98, hk⟩ := wp_opt hk
    obtain ⟨w99, e100, r101⟩ := hl96.atI e98
    obtain rfl := R.int_ r101
    refine ⟨_, _, _, _, rfl, rfl, (SqLF O91.s h95), e100, _, _, _, _, _, rfl, (O91.pre1 0 rfl), hl90, wp_call hk (fun r102 er103 hk F104 H105 w107 g106 h108 hl109 => ?_) (fun n hn C H1 hC kp => hn C H1 hC (O91.kp1 kp 0 rfl))⟩
    have O110 := O91.call1 g106 0 rfl h108
    have S_ := g106.f
    have f_rule := f_rule.mono S_
    have h4 := S_ _ _ h4
    have r9 := r9.mono S_
    have r10 := r10.mono S_
    have r11 := r11.mono S_
    have r12 := r12.mono S_
    have h18 := S_ _ _ h18
    have hl19 := hl19.mono S_
    have hl62 := hl62.mono S_
    have hl73 := hl73.mono S_
    have h81 := h81.mono S_
    have h95 := S_ _ _ h95
    have hl96 := hl96.mono S_
    refine ⟨_, rfl, _, _, _, _, _, rfl, (O110.pre1 0 rfl), hl109, wp_call hk (fun r111 er112 hk F113 H114 w116 g115 h117 hl118 => ?_) (fun n hn C H1 hC kp => hn C H1 hC (O110.kp1 kp 0 rfl))⟩
    have O119 := O110.call1 g115 0 rfl h117
    have S_ := g115.f
    have f_rule := f_rule.mono S_
    have h4 := S_ _ _ h4
    have r9 := r9.mono S_
    have r10 := r10.mono S_
    have r11 := r11.mono S_
    have r12 := r12.mono S_
    have h18 := S_ _ _ h18
    have hl19 := hl19.mono S_
    have hl62 := hl62.mono S_
    have hl73 := hl73.mono S_
    have h81 := h81.mono S_
    have h95 := S_ _ _ h95
    have hl96 := hl96.mono S_
    refine ⟨(by show 1 ≤ sizeLine; decide), fun p120 hp121 => ?_⟩
    obtain ⟨F122, O123, S124, h125⟩ := O119.putE hp121 (.tup [V.str ("tie" : Str)])
    have f_rule := f_rule.mono S124
    have h4 := S124 _ _ h4
    have r9 := r9.mono S124
    have r10 := r10.mono S124
    have r11 := r11.mono S124
    have r12 := r12.mono S124
    have h18 := S124 _ _ h18
    have hl19 := hl19.mono S124
    have hl62 := hl62.mono S124
    have hl73 := hl73.mono S124
    have h81 := h81.mono S124
    have h95 := S124 _ _ h95
    have hl96 := hl96.mono S124
    have hl118 := hl118.mono S124
    have h126 := R.of_nam h125
    refine ⟨(by show 2 ≤ sizeLine; decide), fun p127 hp128 => ?_⟩
    obtain ⟨F129, O130, S131, h132⟩ := O123.putE hp128 (.tup [V.str ("so" : Str), V.int (0 : Int)])
    have f_rule := f_rule.mono S131
    have h4 := S131 _ _ h4
    have r9 := r9.mono S131
    have r10 := r10.mono S131
    have r11 := r11.mono S131
    have r12 := r12.mono S131
    have h18 := S131 _ _ h18
    have hl19 := hl19.mono S131
    have hl62 := hl62.mono S131
    have hl73 := hl73.mono S131
    have h81 := h81.mono S131
    have h95 := S131 _ _ h95
    have hl96 := hl96.mono S131
    have hl118 := hl118.mono S131
    have h126 := h126.mono S131
    have h133 : R (a := (Str × Int)) F129 (.ref p127) (("so" : Str), (0 : Int)) := R.t2 h132 R.str R.int
    refine ⟨(by show 2 ≤ sizeLine; decide), fun p134 hp135 => ?_⟩
    obtain ⟨F136, O137, S138, h139⟩ := O130.putE hp135 (.tup [V.str ("more" : Str), V.int (0 : Int)])
    have f_rule := f_rule.mono S138
    have h4 := S138 _ _ h4
    have r9 := r9.mono S138
    have r10 := r10.mono S138
    have r11 := r11.mono S138
    have r12 := r12.mono S138
    have h18 := S138 _ _ h18
    have hl19 := hl19.mono S138
    have hl62 := hl62.mono S138
    have hl73 := hl73.mono S138
    have h81 := h81.mono S138
    have h95 := S138 _ _ h95
    have hl96 := hl96.mono S138
    have hl118 := hl118.mono S138
    have h126 := h126.mono S138
    have h133 := h133.mono S138
    have h140 : R (a := (Str × Int)) F136 (.ref p134) (("more" : Str), (0 : Int)) := R.t2 h139 R.str R.int
    refine ⟨(by show 3 ≤ sizeLine; decide), fun p141 hp142 => ?_⟩
    have hl148 : RL (a := Sm) F136 ([V.ref p120, V.ref p127, V.ref p134]) ([(Sm.nam ("tie" : Str)), (Sm.num (("so" : Str), (0 : Int)).1 (("so" : Str), (0 : Int)).2), (Sm.num (("more" : Str), (0 : Int)).1 (("more" : Str), (0 : Int)).2)]) := RL.cons h126 (RL.cons (R.of_num h133) (RL.cons (R.of_num h140) RL.nil))
    obtain ⟨F143, O144, S145, h146⟩ := O137.putE hp142 (.lst ([V.ref p120, V.ref p127, V.ref p134]))
    have f_rule := f_rule.mono S145
    have h4 := S145 _ _ h4
    have r9 := r9.mono S145
    have r10 := r10.mono S145
    have r11 := r11.mono S145
    have r12 := r12.mono S145
    have h18 := S145 _ _ h18
    have hl19 := hl19.mono S145
    have hl62 := hl62.mono S145
    have hl73 := hl73.mono S145
    have h81 := h81.mono S145
    have h95 := S145 _ _ h95
    have hl96 := hl96.mono S145
    have hl118 := hl118.mono S145
    have h126 := h126.mono S145
    have h133 := h133.mono S145
    have h140 := h140.mono S145
    have hl148 := hl148.mono S145
    have h147 := R.lst (a := Sm) h146 hl148
    refine ⟨(by show 2 ≤ sizeLine; decide), fun p149 hp150 => ?_⟩
    obtain ⟨F151, O152, S153, h154⟩ := O144.putE hp150 (.tup [V.str ("so" : Str), V.int (0 : Int)])
    have f_rule := f_rule.mono S153
    have h4 := S153 _ _ h4
    have r9 := r9.mono S153
    have r10 := r10.mono S153
    have r11 := r11.mono S153
    have r12 := r12.mono S153
    have h18 := S153 _ _ h18
    have hl19 := hl19.mono S153
    have hl62 := hl62.mono S153
    have hl73 := hl73.mono S153
    have h81 := h81.mono S153
    have h95 := S153 _ _ h95
    have hl96 := hl96.mono S153
    have hl118 := hl118.mono S153
    have h126 := h126.mono S153
    have h133 := h133.mono S153
    have h140 := h140.mono S153
    have h147 := h147.mono S153
    have h155 : R (a := (Str × Int)) F151 (.ref p149) (("so" : Str), (0 : Int)) := R.t2 h154 R.str R.int
    refine ⟨_, rfl, _, rfl, _, _, rfl, rfl, (by show 2 ≤ sizeLine; decide), fun p156 hp157 => ?_⟩
    obtain ⟨F158, O159, S160, h161⟩ := O152.putE hp157 (.tup [V.str ("more" : Str), V.int ((y67.length : Int) + r102.1)])
    have f_rule := f_rule.mono S160
    have h4 := S160 _ _ h4
    have r9 := r9.mono S160
    have r10 := r10.mono S160
    have r11 := r11.mono S160
    have r12 := r12.mono S160
    have h18 := S160 _ _ h18
    have hl19 := hl19.mono S160
    have hl62 := hl62.mono S160
    have hl73 := hl73.mono S160
    have h81 := h81.mono S160
    have h95 := S160 _ _ h95
    have hl96 := hl96.mono S160
    have hl118 := hl118.mono S160
    have h126 := h126.mono S160
    have h133 := h133.mono S160
    have h140 := h140.mono S160
    have h147 := h147.mono S160
    have h155 := h155.mono S160
    have h162 : R (a := (Str × Int)) F158 (.ref p156) (("more" : Str), ((y67.length : Int) + r102.1)) := R.t2 h161 R.str R.int
    refine ⟨_, rfl, _, rfl, _, _, rfl, rfl, (by show 2 ≤ sizeLine; decide), fun p163 hp164 => ?_⟩
    obtain ⟨F165, O166, S167, h168⟩ := O159.putE hp164 (.tup [V.str ("more" : Str), V.int ((-(1 : Int)) - r102.1)])
    have f_rule := f_rule.mono S167
    have h4 := S167 _ _ h4
    have r9 := r9.mono S167
    have r10 := r10.mono S167
    have r11 := r11.mono S167
    have r12 := r12.mono S167
    have h18 := S167 _ _ h18
    have hl19 := hl19.mono S167
    have hl62 := hl62.mono S167
    have hl73 := hl73.mono S167
    have h81 := h81.mono S167
    have h95 := S167 _ _ h95
    have hl96 := hl96.mono S167
    have hl118 := hl118.mono S167
    have h126 := h126.mono S167
    have h133 := h133.mono S167
    have h140 := h140.mono S167
    have h147 := h147.mono S167
    have h155 := h155.mono S167
    have h162 := h162.mono S167
    have h169 : R (a := (Str × Int)) F165 (.ref p163) (("more" : Str), ((-(1 : Int)) - r102.1)) := R.t2 h168 R.str R.int
    refine ⟨(by show 3 ≤ sizeLine; decide), fun p170 hp171 => ?_⟩
    have hl177 : RL (a := Sm) F165 ([V.ref p149, V.ref p156, V.ref p163]) ([(Sm.num (("so" : Str), (0 : Int)).1 (("so" : Str), (0 : Int)).2), (Sm.num (("more" : Str), ((y67.length : Int) + r102.1)).1 (("more" : Str), ((y67.length : Int) + r102.1)).2), (Sm.num (("more" : Str), ((-(1 : Int)) - r102.1)).1 (("more" : Str), ((-(1 : Int)) - r102.1)).2)]) := RL.cons (R.of_num h155) (RL.cons (R.of_num h162) (RL.cons (R.of_num h169) RL.nil))
    obtain ⟨F172, O173, S174, h175⟩ := O166.putE hp171 (.lst ([V.ref p149, V.ref p156, V.ref p163]))
    have f_rule := f_rule.mono S174
    have h4 := S174 _ _ h4
    have r9 := r9.mono S174
    have r10 := r10.mono S174
    have r11 := r11.mono S174
    have r12 := r12.mono S174
    have h18 := S174 _ _ h18
    have hl19 := hl19.mono S174
    have hl62 := hl62.mono S174
    have hl73 := hl73.mono S174
    have h81 := h81.mono S174
    have h95 := S174 _ _ h95
    have hl96 := hl96.mono S174
    have hl118 := hl118.mono S174
    have h126 := h126.mono S174
    have h133 := h133.mono S174
    have h140 := h140.mono S174
    have h147 := h147.mono S174
    have h155 := h155.mono S174
    have h162 := h162.mono S174
    have h169 := h169.mono S174
    have hl177 := hl177.mono S174
    have h176 := R.lst (a := Sm) h175 hl177
    refine ⟨(by show 2 ≤ sizeLine; decide), fun p178 hp179 => ?_⟩
    have hl185 : RL (a := (List Sm)) F172 ([V.ref p141, V.ref p170]) ([[(Sm.nam ("tie" : Str)), (Sm.num (("so" : Str), (0 : Int)).1 (("so" : Str), (0 : Int)).2), (Sm.num (("more" : Str), (0 : Int)).1 (("more" : Str), (0 : Int)).2)], [(Sm.num (("so" : Str), (0 : Int)).1 (("so" : Str), (0 : Int)).2), (Sm.num (("more" : Str), ((y67.length : Int) + r102.1)).1 (("more" : Str), ((y67.length : Int) + r102.1)).2), (Sm.num (("more" : Str), ((-(1 : Int)) - r102.1)).1 (("more" : Str), ((-(1 : Int)) - r102.1)).2)]]) := RL.cons h147 (RL.cons h176 RL.nil)
    obtain ⟨F180, O181, S182, h183⟩ := O173.putE hp179 (.lst ([V.ref p141, V.ref p170]))
    have f_rule := f_rule.mono S182
    have h4 := S182 _ _ h4
    have r9 := r9.mono S182
    have r10 := r10.mono S182
    have r11 := r11.mono S182
    have r12 := r12.mono S182
    have h18 := S182 _ _ h18
    have hl19 := hl19.mono S182
    have hl62 := hl62.mono S182
    have hl73 := hl73.mono S182
    have h81 := h81.mono S182
    have h95 := S182 _ _ h95
    have hl96 := hl96.mono S182
    have hl118 := hl118.mono S182
    have h126 := h126.mono S182
    have h133 := h133.mono S182
    have h140 := h140.mono S182
    have h147 := h147.mono S182
    have h155 := h155.mono S182
    have h162 := h162.mono S182
    have h169 := h169.mono S182
    have h176 := h176.mono S182
    have hl185 := hl185.mono S182
    have h184 := R.lst (a := (List Sm)) h183 hl185
    obtain ⟨n186, hn187, hk⟩ := wp_ret hk
    have h188 : R (a := (List (List Sm))) F180 (V.ref p178) n186 := by rw [hn187]; exact h184
    clear hn187
    refine ⟨_, rfl, (by show 1 ≤ sizeLine; decide), fun p189 hp190 => ?_⟩
    obtain ⟨F191, O192, S193, h194⟩ := O181.putE hp190 (.tup [V.str ("tie" : Str)])
    have f_rule := f_rule.mono S193
    have h4 := S193 _ _ h4
    have r9 := r9.mono S193
    have r10 := r10.mono S193
    have r11 := r11.mono S193
    have r12 := r12.mono S193
    have h18 := S193 _ _ h18
    have hl19 := hl19.mono S193
    have hl62 := hl62.mono S193
    have hl73 := hl73.mono S193
    have h81 := h81.mono S193
    have h95 := S193 _ _ h95
    have hl96 := hl96.mono S193
    have hl118 := hl118.mono S193
    have h126 := h126.mono S193
    have h133 := h133.mono S193
    have h140 := h140.mono S193
    have h147 := h147.mono S193
    have h155 := h155.mono S193
    have h162 := h162.mono S193
    have h169 := h169.mono S193
    have h176 := h176.mono S193
    have h184 := h184.mono S193
    have h188 := h188.mono S193
    have h195 := R.of_nam h194
    refine ⟨_, rfl, _, rfl, _, _, rfl, rfl, (by show 2 ≤ sizeLine; decide), fun p196 hp197 => ?_⟩
    obtain ⟨F198, O199, S200, h201⟩ := O192.putE hp197 (.tup [V.str ("so" : Str), V.int ((y67.length : Int) + r102.1)])
    have f_rule := f_rule.mono S200
    have h4 := S200 _ _ h4
    have r9 := r9.mono S200
    have r10 := r10.mono S200
    have r11 := r11.mono S200
    have r12 := r12.mono S200
    have h18 := S200 _ _ h18
    have hl19 := hl19.mono S200
    have hl62 := hl62.mono S200
    have hl73 := hl73.mono S200
    have h81 := h81.mono S200
    have h95 := S200 _ _ h95
    have hl96 := hl96.mono S200
    have hl118 := hl118.mono S200
    have h126 := h126.mono S200
    have h133 := h133.mono S200
    have h140 := h140.mono S200
    have h147 := h147.mono S200
    have h155 := h155.mono S200
    have h162 := h162.mono S200
    have h169 := h169.mono S200
    have h176 := h176.mono S200
    have h184 := h184.mono S200
    have h188 := h188.mono S200
    have h195 := h195.mono S200
    have h202 : R (a := (Str × Int)) F198 (.ref p196) (("so" : Str), ((y67.length : Int) + r102.1)) := R.t2 h201 R.str R.int
    refine ⟨_, rfl, _, rfl, _, _, rfl, rfl, (by show 2 ≤ sizeLine; decide), fun p203 hp204 => ?_⟩
    obtain ⟨F205, O206, S207, h208⟩ := O199.putE hp204 (.tup [V.str ("more" : Str), V.int ((-(1 : Int)) - r102.1)])
    have f_rule := f_rule.mono S207
    have h4 := S207 _ _ h4
    have r9 := r9.mono S207
    have r10 := r10.mono S207
    have r11 := r11.mono S207
    have r12 := r12.mono S207
    have h18 := S207 _ _ h18
    have hl19 := hl19.mono S207
    have hl62 := hl62.mono S207
    have hl73 := hl73.mono S207
    have h81 := h81.mono S207
    have h95 := S207 _ _ h95
    have hl96 := hl96.mono S207
    have hl118 := hl118.mono S207
    have h126 := h126.mono S207
    have h133 := h133.mono S207
    have h140 := h140.mono S207
    have h147 := h147.mono S207
    have h155 := h155.mono S207
    have h162 := h162.mono S207
    have h169 := h169.mono S207
    have h176 := h176.mono S207
    have h184 := h184.mono S207
    have h188 := h188.mono S207
    have h195 := h195.mono S207
    have h202 := h202.mono S207
    have h209 : R (a := (Str × Int)) F205 (.ref p203) (("more" : Str), ((-(1 : Int)) - r102.1)) := R.t2 h208 R.str R.int
    refine ⟨(by show 3 ≤ sizeLine; decide), fun p210 hp211 => ?_⟩
    have hl217 : RL (a := Sm) F205 ([V.ref p189, V.ref p196, V.ref p203]) ([(Sm.nam ("tie" : Str)), (Sm.num (("so" : Str), ((y67.length : Int) + r102.1)).1 (("so" : Str), ((y67.length : Int) + r102.1)).2), (Sm.num (("more" : Str), ((-(1 : Int)) - r102.1)).1 (("more" : Str), ((-(1 : Int)) - r102.1)).2)]) := RL.cons h195 (RL.cons (R.of_num h202) (RL.cons (R.of_num h209) RL.nil))
    obtain ⟨F212, O213, S214, h215⟩ := O206.putE hp211 (.lst ([V.ref p189, V.ref p196, V.ref p203]))
    have f_rule := f_rule.mono S214
    have h4 := S214 _ _ h4
    have r9 := r9.mono S214
    have r10 := r10.mono S214
    have r11 := r11.mono S214
    have r12 := r12.mono S214
    have h18 := S214 _ _ h18
    have hl19 := hl19.mono S214
    have hl62 := hl62.mono S214
    have hl73 := hl73.mono S214
    have h81 := h81.mono S214
    have h95 := S214 _ _ h95
    have hl96 := hl96.mono S214
    have hl118 := hl118.mono S214
    have h126 := h126.mono S214
    have h133 := h133.mono S214
    have h140 := h140.mono S214
    have h147 := h147.mono S214
    have h155 := h155.mono S214
    have h162 := h162.mono S214
    have h169 := h169.mono S214
    have h176 := h176.mono S214
    have h184 := h184.mono S214
    have h188 := h188.mono S214
    have h195 := h195.mono S214
    have h202 := h202.mono S214
    have h209 := h209.mono S214
    have hl217 := hl217.mono S214
    have h216 := R.lst (a := Sm) h215 hl217
    refine ⟨(by show 1 ≤ sizeLine; decide), fun p218 hp219 => ?_⟩
    obtain ⟨F220, O221, S222, h223⟩ := O213.putE hp219 (.tup [V.str ("tie" : Str)])
    have f_rule := f_rule.mono S222
    have h4 := S222 _ _ h4
    have r9 := r9.mono S222
    have r10 := r10.mono S222
    have r11 := r11.mono S222
    have r12 := r12.mono S222
    have h18 := S222 _ _ h18
    have hl19 := hl19.mono S222
    have hl62 := hl62.mono S222
    have hl73 := hl73.mono S222
    have h81 := h81.mono S222
    have h95 := S222 _ _ h95
    have hl96 := hl96.mono S222
    have hl118 := hl118.mono S222
    have h126 := h126.mono S222
    have h133 := h133.mono S222
    have h140 := h140.mono S222
    have h147 := h147.mono S222
    have h155 := h155.mono S222
    have h162 := h162.mono S222
    have h169 := h169.mono S222
    have h176 := h176.mono S222
    have h184 := h184.mono S222
    have h188 := h188.mono S222
    have h195 := h195.mono S222
    have h202 := h202.mono S222
    have h209 := h209.mono S222
    have h216 := h216.mono S222
    have h224 := R.of_nam h223
    refine ⟨(by show 2 ≤ sizeLine; decide), fun p225 hp226 => ?_⟩
    obtain ⟨F227, O228, S229, h230⟩ := O221.putE hp226 (.tup [V.str ("more" : Str), V.int (0 : Int)])
    have f_rule := f_rule.mono S229
    have h4 := S229 _ _ h4
    have r9 := r9.mono S229
    have r10 := r10.mono S229
    have r11 := r11.mono S229
    have r12 := r12.mono S229
    have h18 := S229 _ _ h18
    have hl19 := hl19.mono S229
    have hl62 := hl62.mono S229
    have hl73 := hl73.mono S229
    have h81 := h81.mono S229
    have h95 := S229 _ _ h95
    have hl96 := hl96.mono S229
    have hl118 := hl118.mono S229
    have h126 := h126.mono S229
    have h133 := h133.mono S229
    have h140 := h140.mono S229
    have h147 := h147.mono S229
    have h155 := h155.mono S229
    have h162 := h162.mono S229
    have h169 := h169.mono S229
    have h176 := h176.mono S229
    have h184 := h184.mono S229
    have h188 := h188.mono S229
    have h195 := h195.mono S229
    have h202 := h202.mono S229
    have h209 := h209.mono S229
    have h216 := h216.mono S229
    have h224 := h224.mono S229
    have h231 : R (a := (Str × Int)) F227 (.ref p225) (("more" : Str), (0 : Int)) := R.t2 h230 R.str R.int
    refine ⟨_, rfl, _, rfl, _, _, rfl, rfl, (by show 2 ≤ sizeLine; decide), fun p232 hp233 => ?_⟩
    obtain ⟨F234, O235, S236, h237⟩ := O228.putE hp233 (.tup [V.str ("so" : Str), V.int ((-(1 : Int)) - r102.1)])
    have f_rule := f_rule.mono S236
    have h4 := S236 _ _ h4
    have r9 := r9.mono S236
    have r10 := r10.mono S236
    have r11 := r11.mono S236
    have r12 := r12.mono S236
    have h18 := S236 _ _ h18
    have hl19 := hl19.mono S236
    have hl62 := hl62.mono S236
    have hl73 := hl73.mono S236
    have h81 := h81.mono S236
    have h95 := S236 _ _ h95
    have hl96 := hl96.mono S236
    have hl118 := hl118.mono S236
    have h126 := h126.mono S236
    have h133 := h133.mono S236
    have h140 := h140.mono S236
    have h147 := h147.mono S236
    have h155 := h155.mono S236
    have h162 := h162.mono S236
    have h169 := h169.mono S236
    have h176 := h176.mono S236
    have h184 := h184.mono S236
    have h188 := h188.mono S236
    have h195 := h195.mono S236
    have h202 := h202.mono S236
    have h209 := h209.mono S236
    have h216 := h216.mono S236
    have h224 := h224.mono S236
    have h231 := h231.mono S236
    have h238 : R (a := (Str × Int)) F234 (.ref p232) (("so" : Str), ((-(1 : Int)) - r102.1)) := R.t2 h237 R.str R.int
    refine ⟨(by show 3 ≤ sizeLine; decide), fun p239 hp240 => ?_⟩
    have hl246 : RL (a := Sm) F234 ([V.ref p218, V.ref p225, V.ref p232]) ([(Sm.nam ("tie" : Str)), (Sm.num (("more" : Str), (0 : Int)).1 (("more" : Str), (0 : Int)).2), (Sm.num (("so" : Str), ((-(1 : Int)) - r102.1)).1 (("so" : Str), ((-(1 : Int)) - r102.1)).2)]) := RL.cons h224 (RL.cons (R.of_num h231) (RL.cons (R.of_num h238) RL.nil))
    obtain ⟨F241, O242, S243, h244⟩ := O235.putE hp240 (.lst ([V.ref p218, V.ref p225, V.ref p232]))
    have f_rule := f_rule.mono S243
    have h4 := S243 _ _ h4
    have r9 := r9.mono S243
    have r10 := r10.mono S243
    have r11 := r11.mono S243
    have r12 := r12.mono S243
    have h18 := S243 _ _ h18
    have hl19 := hl19.mono S243
    have hl62 := hl62.mono S243
    have hl73 := hl73.mono S243
    have h81 := h81.mono S243
    have h95 := S243 _ _ h95
    have hl96 := hl96.mono S243
    have hl118 := hl118.mono S243
    have h126 := h126.mono S243
    have h133 := h133.mono S243
    have h140 := h140.mono S243
    have h147 := h147.mono S243
    have h155 := h155.mono S243
    have h162 := h162.mono S243
    have h169 := h169.mono S243
    have h176 := h176.mono S243
    have h184 := h184.mono S243
    have h188 := h188.mono S243
    have h195 := h195.mono S243
    have h202 := h202.mono S243
    have h209 := h209.mono S243
    have h216 := h216.mono S243
    have h224 := h224.mono S243
    have h231 := h231.mono S243
    have h238 := h238.mono S243
    have hl246 := hl246.mono S243
    have h245 := R.lst (a := Sm) h244 hl246
    refine ⟨(by show 2 ≤ sizeLine; decide), fun p247 hp248 => ?_⟩
    have hl254 : RL (a := (List Sm)) F241 ([V.ref p210, V.ref p239]) ([[(Sm.nam ("tie" : Str)), (Sm.num (("so" : Str), ((y67.length : Int) + r102.1)).1 (("so" : Str), ((y67.length : Int) + r102.1)).2), (Sm.num (("more" : Str), ((-(1 : Int)) - r102.1)).1 (("more" : Str), ((-(1 : Int)) - r102.1)).2)], [(Sm.nam ("tie" : Str)), (Sm.num (("more" : Str), (0 : Int)).1 (("more" : Str), (0 : Int)).2), (Sm.num (("so" : Str), ((-(1 : Int)) - r102.1)).1 (("so" : Str), ((-(1 : Int)) - r102.1)).2)]]) := RL.cons h216 (RL.cons h245 RL.nil)
    obtain ⟨F249, O250, S251, h252⟩ := O242.putE hp248 (.lst ([V.ref p210, V.ref p239]))
    have f_rule := f_rule.mono S251
    have h4 := S251 _ _ h4
    have r9 := r9.mono S251
    have r10 := r10.mono S251
    have r11 := r11.mono S251
    have r12 := r12.mono S251
    have h18 := S251 _ _ h18
    have hl19 := hl19.mono S251
    have hl62 := hl62.mono S251
    have hl73 := hl73.mono S251
    have h81 := h81.mono S251
    have h95 := S251 _ _ h95
    have hl96 := hl96.mono S251
    have hl118 := hl118.mono S251
    have h126 := h126.mono S251
    have h133 := h133.mono S251
    have h140 := h140.mono S251
    have h147 := h147.mono S251
    have h155 := h155.mono S251
    have h162 := h162.mono S251
    have h169 := h169.mono S251
    have h176 := h176.mono S251
    have h184 := h184.mono S251
    have h188 := h188.mono S251
    have h195 := h195.mono S251
    have h202 := h202.mono S251
    have h209 := h209.mono S251
    have h216 := h216.mono S251
    have h224 := h224.mono S251
    have h231 := h231.mono S251
    have h238 := h238.mono S251
    have h245 := h245.mono S251
    have hl254 := hl254.mono S251
    have h253 := R.lst (a := (List Sm)) h252 hl254
    obtain ⟨p255, w256, e257, h258, hl259⟩ := R.lst_ h188
    cases e257
    obtain ⟨p260, w261, e262, h263, hl264⟩ := R.lst_ h253
    cases e262
    obtain ⟨c265, hk⟩ := wp_chk hk
    refine ⟨_, _, _, _, rfl, rfl, (O250.s _ _ h258), (O250.s _ _ h263), (by rw [hl259.len, hl264.len]; exact le_line c265), fun p266 hp267 => ?_⟩
    have hl273 : RL (a := (List Sm)) F249 (w256 ++ w261) (n186 ++ ([[(Sm.nam ("tie" : Str)), (Sm.num (("so" : Str), ((y67.length : Int) + r102.1)).1 (("so" : Str), ((y67.length : Int) + r102.1)).2), (Sm.num (("more" : Str), ((-(1 : Int)) - r102.1)).1 (("more" : Str), ((-(1 : Int)) - r102.1)).2)], [(Sm.nam ("tie" : Str)), (Sm.num (("more" : Str), (0 : Int)).1 (("more" : Str), (0 : Int)).2), (Sm.num (("so" : Str), ((-(1 : Int)) - r102.1)).1 (("so" : Str), ((-(1 : Int)) - r102.1)).2)]])) := RL.app hl259 hl264
    obtain ⟨F268, O269, S270, h271⟩ := O250.putE hp267 (.lst (w256 ++ w261))
    have f_rule := f_rule.mono S270
    have h4 := S270 _ _ h4
    have r9 := r9.mono S270
    have r10 := r10.mono S270
    have r11 := r11.mono S270
    have r12 := r12.mono S270
    have h18 := S270 _ _ h18
    have hl19 := hl19.mono S270
    have hl62 := hl62.mono S270
    have hl73 := hl73.mono S270
    have h81 := h81.mono S270
    have h95 := S270 _ _ h95
    have hl96 := hl96.mono S270
    have hl118 := hl118.mono S270
    have h126 := h126.mono S270
    have h133 := h133.mono S270
    have h140 := h140.mono S270
    have h147 := h147.mono S270
    have h155 := h155.mono S270
    have h162 := h162.mono S270
    have h169 := h169.mono S270
    have h176 := h176.mono S270
    have h184 := h184.mono S270
    have h188 := h188.mono S270
    have h195 := h195.mono S270
    have h202 := h202.mono S270
    have h209 := h209.mono S270
    have h216 := h216.mono S270
    have h224 := h224.mono S270
    have h231 := h231.mono S270
    have h238 := h238.mono S270
    have h245 := h245.mono S270
    have h253 := h253.mono S270
    have h258 := S270 _ _ h258
    have hl259 := hl259.mono S270
    have h263 := S270 _ _ h263
    have hl264 := hl264.mono S270
    have hl273 := hl273.mono S270
    have h272 := R.lst (a := (List Sm)) h271 hl273
    obtain ⟨n274, hn275, hk⟩ := wp_ret hk
    have h276 : R (a := (List (List Sm))) F268 (V.ref p266) n274 := by rw [hn275]; exact h272
    clear hn275
    obtain ⟨p277, w278, e279, h280, hl281⟩ := R.lst_ h276
    cases e279
    obtain ⟨y282, e283, hk⟩ := wp_opt hk
    obtain ⟨w284, e285, r286⟩ := hl281.atI e283
    refine ⟨_, rfl, _, rfl, _, _, _, _, rfl, rfl, (SqLF O269.s h280), e285, _, rfl, _, _, _, _, _, rfl, (O269.pre1 0 rfl), hl118, wp_call hk (fun r287 er288 hk F289 H290 w292 g291 h293 hl294 => ?_) (fun n hn C H1 hC kp => hn C H1 hC (O269.kp1 kp 0 rfl))⟩
    have O295 := O269.call1 g291 0 rfl h293
    have S_ := g291.f
    have f_rule := f_rule.mono S_
    have h4 := S_ _ _ h4
    have r9 := r9.mono S_
    have r10 := r10.mono S_
    have r11 := r11.mono S_
    have r12 := r12.mono S_
    have h18 := S_ _ _ h18
    have hl19 := hl19.mono S_
    have hl62 := hl62.mono S_
    have hl73 := hl73.mono S_
    have h81 := h81.mono S_
    have h95 := S_ _ _ h95
    have hl96 := hl96.mono S_
    have h126 := h126.mono S_
    have h133 := h133.mono S_
    have h140 := h140.mono S_
    have h147 := h147.mono S_
    have h155 := h155.mono S_
    have h162 := h162.mono S_
    have h169 := h169.mono S_
    have h176 := h176.mono S_
    have h184 := h184.mono S_
    have h188 := h188.mono S_
    have h195 := h195.mono S_
    have h202 := h202.mono S_
    have h209 := h209.mono S_
    have h216 := h216.mono S_
    have h224 := h224.mono S_
    have h231 := h231.mono S_
    have h238 := h238.mono S_
    have h245 := h245.mono S_
    have h253 := h253.mono S_
    have h258 := S_ _ _ h258
    have hl259 := hl259.mono S_
    have h263 := S_ _ _ h263
    have hl264 := hl264.mono S_
    have h272 := h272.mono S_
    have h276 := h276.mono S_
    have h280 := S_ _ _ h280
    have hl281 := hl281.mono S_
    have r286 := r286.mono S_
    obtain ⟨p296, w297, e298, h299, hl300⟩ := R.lst_ r286
    cases e298
    obtain ⟨y301, e302, hk⟩ := wp_opt hk
    obtain ⟨w303, e304, r305⟩ := hl300.atI e302
    refine ⟨_, _, _, _, rfl, rfl, (SqLF O295.s h299), e304, _, rfl, _, _, _, _, _, rfl, (O295.pre1 0 rfl), hl294, wp_call hk (fun r306 er307 hk F308 H309 w311 g310 h312 hl313 => ?_) (fun n hn C H1 hC kp => hn C H1 hC (O295.kp1 kp 0 rfl))⟩
    have O314 := O295.call1 g310 0 rfl h312
    have S_ := g310.f
    have f_rule := f_rule.mono S_
    have h4 := S_ _ _ h4
    have r9 := r9.mono S_
    have r10 := r10.mono S_
    have r11 := r11.mono S_
    have r12 := r12.mono S_
    have h18 := S_ _ _ h18
    have hl19 := hl19.mono S_
    have hl62 := hl62.mono S_
    have hl73 := hl73.mono S_
    have h81 := h81.mono S_
    have h95 := S_ _ _ h95
    have hl96 := hl96.mono S_
    have h126 := h126.mono S_
    have h133 := h133.mono S_
    have h140 := h140.mono S_
    have h147 := h147.mono S_
    have h155 := h155.mono S_
    have h162 := h162.mono S_
    have h169 := h169.mono S_
    have h176 := h176.mono S_
    have h184 := h184.mono S_
    have h188 := h188.mono S_
    have h195 := h195.mono S_
    have h202 := h202.mono S_
    have h209 := h209.mono S_
    have h216 := h216.mono S_
    have h224 := h224.mono S_
    have h231 := h231.mono S_
    have h238 := h238.mono S_
    have h245 := h245.mono S_
    have h253 := h253.mono S_
    have h258 := S_ _ _ h258
    have hl259 := hl259.mono S_
    have h263 := S_ _ _ h263
    have hl264 := hl264.mono S_
    have h272 := h272.mono S_
    have h276 := h276.mono S_
    have h280 := S_ _ _ h280
    have hl281 := hl281.mono S_
    have r286 := r286.mono S_
    have h299 := S_ _ _ h299
    have hl300 := hl300.mono S_
    have r305 := r305.mono S_
    refine ⟨_, _, R.int, R.int, _, rfl, ?_⟩
    refine iteD (fun q315 => ?_) (fun q315 => ?_)
    · have hk := wp_if hk q315
      refine ⟨(by show 2 ≤ sizeLine; decide), fun p316 hp317 => ?_⟩
      obtain ⟨F318, O319, S320, h321⟩ := O314.putE hp317 (.tup [V.str ("number" : Str), V.int (1 : Int)])
      have f_rule := f_rule.mono S320
      have h4 := S320 _ _ h4
      have r9 := r9.mono S320
      have r10 := r10.mono S320
      have r11 := r11.mono S320
      have r12 := r12.mono S320
      have h18 := S320 _ _ h18
      have hl19 := hl19.mono S320
      have hl62 := hl62.mono S320
      have hl73 := hl73.mono S320
      have h81 := h81.mono S320
      have h95 := S320 _ _ h95
      have hl96 := hl96.mono S320
      have h126 := h126.mono S320
      have h133 := h133.mono S320
      have h140 := h140.mono S320
      have h147 := h147.mono S320
      have h155 := h155.mono S320
      have h162 := h162.mono S320
      have h169 := h169.mono S320
      have h176 := h176.mono S320
      have h184 := h184.mono S320
      have h188 := h188.mono S320
      have h195 := h195.mono S320
      have h202 := h202.mono S320
      have h209 := h209.mono S320
      have h216 := h216.mono S320
      have h224 := h224.mono S320
      have h231 := h231.mono S320
      have h238 := h238.mono S320
      have h245 := h245.mono S320
      have h253 := h253.mono S320
      have h258 := S320 _ _ h258
      have hl259 := hl259.mono S320
      have h263 := S320 _ _ h263
      have hl264 := hl264.mono S320
      have h272 := h272.mono S320
      have h276 := h276.mono S320
      have h280 := S320 _ _ h280
      have hl281 := hl281.mono S320
      have r286 := r286.mono S320
      have h299 := S320 _ _ h299
      have hl300 := hl300.mono S320
      have r305 := r305.mono S320
      have hl313 := hl313.mono S320
      have h322 : R (a := (Str × Int)) F318 (.ref p316) (("number" : Str), (1 : Int)) := R.t2 h321 R.str R.int
      refine ⟨_, rfl, (by show 1 ≤ sizeLine; decide), fun p323 hp324 => ?_⟩
      obtain ⟨F325, O326, S327, h328⟩ := O319.putE hp324 (.tup [V.str ("own" : Str)])
      have f_rule := f_rule.mono S327
      have h4 := S327 _ _ h4
      have r9 := r9.mono S327
      have r10 := r10.mono S327
      have r11 := r11.mono S327
      have r12 := r12.mono S327
      have h18 := S327 _ _ h18
      have hl19 := hl19.mono S327
      have hl62 := hl62.mono S327
      have hl73 := hl73.mono S327
      have h81 := h81.mono S327
      have h95 := S327 _ _ h95
      have hl96 := hl96.mono S327
      have h126 := h126.mono S327
      have h133 := h133.mono S327
      have h140 := h140.mono S327
      have h147 := h147.mono S327
      have h155 := h155.mono S327
      have h162 := h162.mono S327
      have h169 := h169.mono S327
      have h176 := h176.mono S327
      have h184 := h184.mono S327
      have h188 := h188.mono S327
      have h195 := h195.mono S327
      have h202 := h202.mono S327
      have h209 := h209.mono S327
      have h216 := h216.mono S327
      have h224 := h224.mono S327
      have h231 := h231.mono S327
      have h238 := h238.mono S327
      have h245 := h245.mono S327
      have h253 := h253.mono S327
      have h258 := S327 _ _ h258
      have hl259 := hl259.mono S327
      have h263 := S327 _ _ h263
      have hl264 := hl264.mono S327
      have h272 := h272.mono S327
      have h276 := h276.mono S327
      have h280 := S327 _ _ h280
      have hl281 := hl281.mono S327
      have r286 := r286.mono S327
      have h299 := S327 _ _ h299
      have hl300 := hl300.mono S327
      have r305 := r305.mono S327
      have hl313 := hl313.mono S327
      have h322 := h322.mono S327
      have h329 := R.of_nam h328
      refine ⟨(by show 3 ≤ sizeLine; decide), fun p330 hp331 => ?_⟩
      obtain ⟨F332, O333, S334, h335⟩ := O326.putE hp331 (.tup [V.str ("plus" : Str), w303, V.ref p323])
      have f_rule := f_rule.mono S334
      have h4 := S334 _ _ h4
      have r9 := r9.mono S334
      have r10 := r10.mono S334
      have r11 := r11.mono S334
      have r12 := r12.mono S334
      have h18 := S334 _ _ h18
      have hl19 := hl19.mono S334
      have hl62 := hl62.mono S334
      have hl73 := hl73.mono S334
      have h81 := h81.mono S334
      have h95 := S334 _ _ h95
      have hl96 := hl96.mono S334
      have h126 := h126.mono S334
      have h133 := h133.mono S334
      have h140 := h140.mono S334
      have h147 := h147.mono S334
      have h155 := h155.mono S334
      have h162 := h162.mono S334
      have h169 := h169.mono S334
      have h176 := h176.mono S334
      have h184 := h184.mono S334
      have h188 := h188.mono S334
      have h195 := h195.mono S334
      have h202 := h202.mono S334
      have h209 := h209.mono S334
      have h216 := h216.mono S334
      have h224 := h224.mono S334
      have h231 := h231.mono S334
      have h238 := h238.mono S334
      have h245 := h245.mono S334
      have h253 := h253.mono S334
      have h258 := S334 _ _ h258
      have hl259 := hl259.mono S334
      have h263 := S334 _ _ h263
      have hl264 := hl264.mono S334
      have h272 := h272.mono S334
      have h276 := h276.mono S334
      have h280 := S334 _ _ h280
      have hl281 := hl281.mono S334
      have r286 := r286.mono S334
      have h299 := S334 _ _ h299
      have hl300 := hl300.mono S334
      have r305 := r305.mono S334
      have hl313 := hl313.mono S334
      have h322 := h322.mono S334
      have h329 := h329.mono S334
      have h336 : R (a := (T3 Str Sm Sm)) F332 (.ref p330) (T3.mk ("plus" : Str) y301 (Sm.nam ("own" : Str))) := R.t3 h335 R.str r305 h329
      refine ⟨(by show 3 ≤ sizeLine; decide), fun p337 hp338 => ?_⟩
      have h344 := (R.of_num h322)
      have h345 := (R.of_two h336)
      obtain ⟨F339, O340, S341, h342⟩ := O333.putE hp338 (.tup [V.str ("most" : Str), V.ref p316, V.ref p330])
      have f_rule := f_rule.mono S341
      have h4 := S341 _ _ h4
      have r9 := r9.mono S341
      have r10 := r10.mono S341
      have r11 := r11.mono S341
      have r12 := r12.mono S341
      have h18 := S341 _ _ h18
      have hl19 := hl19.mono S341
      have hl62 := hl62.mono S341
      have hl73 := hl73.mono S341
      have h81 := h81.mono S341
      have h95 := S341 _ _ h95
      have hl96 := hl96.mono S341
      have h126 := h126.mono S341
      have h133 := h133.mono S341
      have h140 := h140.mono S341
      have h147 := h147.mono S341
      have h155 := h155.mono S341
      have h162 := h162.mono S341
      have h169 := h169.mono S341
      have h176 := h176.mono S341
      have h184 := h184.mono S341
      have h188 := h188.mono S341
      have h195 := h195.mono S341
      have h202 := h202.mono S341
      have h209 := h209.mono S341
      have h216 := h216.mono S341
      have h224 := h224.mono S341
      have h231 := h231.mono S341
      have h238 := h238.mono S341
      have h245 := h245.mono S341
      have h253 := h253.mono S341
      have h258 := S341 _ _ h258
      have hl259 := hl259.mono S341
      have h263 := S341 _ _ h263
      have hl264 := hl264.mono S341
      have h272 := h272.mono S341
      have h276 := h276.mono S341
      have h280 := S341 _ _ h280
      have hl281 := hl281.mono S341
      have r286 := r286.mono S341
      have h299 := S341 _ _ h299
      have hl300 := hl300.mono S341
      have r305 := r305.mono S341
      have hl313 := hl313.mono S341
      have h322 := h322.mono S341
      have h329 := h329.mono S341
      have h336 := h336.mono S341
      have h344 := h344.mono S341
      have h345 := h345.mono S341
      have h343 : R (a := (T3 Str Sm Sm)) F339 (.ref p337) (T3.mk ("most" : Str) (Sm.num (("number" : Str), (1 : Int)).1 (("number" : Str), (1 : Int)).2) (Sm.two (T3.mk ("plus" : Str) y301 (Sm.nam ("own" : Str))).a (T3.mk ("plus" : Str) y301 (Sm.nam ("own" : Str))).b (T3.mk ("plus" : Str) y301 (Sm.nam ("own" : Str))).c)) := R.t3 h342 R.str h344 h345
      refine ⟨_, rfl, _, _, _, _, _, rfl, (O340.pre1 0 rfl), hl313, wp_call hk (fun r346 er347 hk F348 H349 w351 g350 h352 hl353 => ?_) (fun n hn C H1 hC kp => hn C H1 hC (O340.kp1 kp 0 rfl))⟩
      have O354 := O340.call1 g350 0 rfl h352
      have S_ := g350.f
      have f_rule := f_rule.mono S_
      have h4 := S_ _ _ h4
      have r9 := r9.mono S_
      have r10 := r10.mono S_
      have r11 := r11.mono S_
      have r12 := r12.mono S_
      have h18 := S_ _ _ h18
      have hl19 := hl19.mono S_
      have hl62 := hl62.mono S_
      have hl73 := hl73.mono S_
      have h81 := h81.mono S_
      have h95 := S_ _ _ h95
      have hl96 := hl96.mono S_
      have h126 := h126.mono S_
      have h133 := h133.mono S_
      have h140 := h140.mono S_
      have h147 := h147.mono S_
      have h155 := h155.mono S_
      have h162 := h162.mono S_
      have h169 := h169.mono S_
      have h176 := h176.mono S_
      have h184 := h184.mono S_
      have h188 := h188.mono S_
      have h195 := h195.mono S_
      have h202 := h202.mono S_
      have h209 := h209.mono S_
      have h216 := h216.mono S_
      have h224 := h224.mono S_
      have h231 := h231.mono S_
      have h238 := h238.mono S_
      have h245 := h245.mono S_
      have h253 := h253.mono S_
      have h258 := S_ _ _ h258
      have hl259 := hl259.mono S_
      have h263 := S_ _ _ h263
      have hl264 := hl264.mono S_
      have h272 := h272.mono S_
      have h276 := h276.mono S_
      have h280 := S_ _ _ h280
      have hl281 := hl281.mono S_
      have r286 := r286.mono S_
      have h299 := S_ _ _ h299
      have hl300 := hl300.mono S_
      have r305 := r305.mono S_
      have h322 := h322.mono S_
      have h329 := h329.mono S_
      have h336 := h336.mono S_
      have h344 := h344.mono S_
      have h345 := h345.mono S_
      have h343 := h343.mono S_
      refine ⟨_, rfl, _, _, R.int, R.int, _, rfl, ?_⟩
      refine iteD (fun q355 => ?_) (fun q355 => ?_)
      · have hk := wp_if hk q355
        refine ⟨_, rfl, _, rfl, _, _, _, _, _, rfl, (O354.pre1 0 rfl), hl353, wp_call hk (fun r356 er357 hk F358 H359 w361 g360 h362 hl363 => ?_) (fun n hn C H1 hC kp => hn C H1 hC (O354.kp1 kp 0 rfl))⟩
        have O364 := O354.call1 g360 0 rfl h362
        have S_ := g360.f
        have f_rule := f_rule.mono S_
        have h4 := S_ _ _ h4
        have r9 := r9.mono S_
        have r10 := r10.mono S_
        have r11 := r11.mono S_
        have r12 := r12.mono S_
        have h18 := S_ _ _ h18
        have hl19 := hl19.mono S_
        have hl62 := hl62.mono S_
        have hl73 := hl73.mono S_
        have h81 := h81.mono S_
        have h95 := S_ _ _ h95
        have hl96 := hl96.mono S_
        have h126 := h126.mono S_
        have h133 := h133.mono S_
        have h140 := h140.mono S_
        have h147 := h147.mono S_
        have h155 := h155.mono S_
        have h162 := h162.mono S_
        have h169 := h169.mono S_
        have h176 := h176.mono S_
        have h184 := h184.mono S_
        have h188 := h188.mono S_
        have h195 := h195.mono S_
        have h202 := h202.mono S_
        have h209 := h209.mono S_
        have h216 := h216.mono S_
        have h224 := h224.mono S_
        have h231 := h231.mono S_
        have h238 := h238.mono S_
        have h245 := h245.mono S_
        have h253 := h253.mono S_
        have h258 := S_ _ _ h258
        have hl259 := hl259.mono S_
        have h263 := S_ _ _ h263
        have hl264 := hl264.mono S_
        have h272 := h272.mono S_
        have h276 := h276.mono S_
        have h280 := S_ _ _ h280
        have hl281 := hl281.mono S_
        have r286 := r286.mono S_
        have h299 := S_ _ _ h299
        have hl300 := hl300.mono S_
        have r305 := r305.mono S_
        have h322 := h322.mono S_
        have h329 := h329.mono S_
        have h336 := h336.mono S_
        have h344 := h344.mono S_
        have h345 := h345.mono S_
        have h343 := h343.mono S_
        obtain ⟨y365, e366, hk⟩ := wp_opt hk
        obtain ⟨j367, c368, e369, hj370, hl371, hx372⟩ := LLR.atI hl62 e366
        refine ⟨_, _, _, _, rfl, rfl, (SqL.of (Ow.llTop (S := [(a_deck, .lst w361)]) (p := p26) (ps := wa59) O364)), e369, (.inl ⟨rfl, _, SqL.of (Ow.llAt (S := [(a_deck, .lst w361)]) (p := p26) (ps := wa59) O364 hj370)⟩), (by show 2 ≤ sizeLine; decide), fun p373 hp374 => ?_⟩
        obtain ⟨F375, O376, S377, h378⟩ := O364.putE hp374 (.tup [V.str ("number" : Str), V.int (0 : Int)])
        have f_rule := f_rule.mono S377
        have h4 := S377 _ _ h4
        have r9 := r9.mono S377
        have r10 := r10.mono S377
        have r11 := r11.mono S377
        have r12 := r12.mono S377
        have h18 := S377 _ _ h18
        have hl19 := hl19.mono S377
        have hl62 := hl62.mono S377
        have hl73 := hl73.mono S377
        have h81 := h81.mono S377
        have h95 := S377 _ _ h95
        have hl96 := hl96.mono S377
        have h126 := h126.mono S377
        have h133 := h133.mono S377
        have h140 := h140.mono S377
        have h147 := h147.mono S377
        have h155 := h155.mono S377
        have h162 := h162.mono S377
        have h169 := h169.mono S377
        have h176 := h176.mono S377
        have h184 := h184.mono S377
        have h188 := h188.mono S377
        have h195 := h195.mono S377
        have h202 := h202.mono S377
        have h209 := h209.mono S377
        have h216 := h216.mono S377
        have h224 := h224.mono S377
        have h231 := h231.mono S377
        have h238 := h238.mono S377
        have h245 := h245.mono S377
        have h253 := h253.mono S377
        have h258 := S377 _ _ h258
        have hl259 := hl259.mono S377
        have h263 := S377 _ _ h263
        have hl264 := hl264.mono S377
        have h272 := h272.mono S377
        have h276 := h276.mono S377
        have h280 := S377 _ _ h280
        have hl281 := hl281.mono S377
        have r286 := r286.mono S377
        have h299 := S377 _ _ h299
        have hl300 := hl300.mono S377
        have r305 := r305.mono S377
        have h322 := h322.mono S377
        have h329 := h329.mono S377
        have h336 := h336.mono S377
        have h344 := h344.mono S377
        have h345 := h345.mono S377
        have h343 := h343.mono S377
        have hl363 := hl363.mono S377
        have hl371 := hl371.mono S377
        have h379 : R (a := (Str × Int)) F375 (.ref p373) (("number" : Str), (0 : Int)) := R.t2 h378 R.str R.int
        obtain ⟨c380, hk⟩ := wp_appL hk
        obtain ⟨j384, e385, hk⟩ := wp_setI hk
        cases (hx372.symm.trans e385)
        refine ⟨_, _, _, rfl, rfl, (Ow.llAt (S := [(a_deck, .lst w361)]) (p := p26) (ps := wa59) O376 hj370), (by rw [hl371.len]; exact c380), ?_⟩
        have O381 := Ow.llSet (S := [(a_deck, .lst w361)]) (p := p26) (ps := wa59) O376 hj370 (c368.2 ++ [V.ref p373])
        have hl382 := LLR.set hl62 (RL.snoc hl371 (R.of_num h379)) c368.1 j367
        have zs383 := zs_set zs65 hj370 (c368.2 ++ [V.ref p373])
        obtain ⟨F387, O388, S389, h390⟩ := Ow.llFrz (S := [(a_deck, .lst w361)]) (p := p26) (ps := (wa59.set j367 (c368.1, c368.2 ++ [V.ref p373]))) O381 z54 zs383 hl382
        have f_rule := f_rule.mono S389
        have h4 := S389 _ _ h4
        have r9 := r9.mono S389
        have r10 := r10.mono S389
        have r11 := r11.mono S389
        have r12 := r12.mono S389
        have h18 := S389 _ _ h18
        have hl19 := hl19.mono S389
        have hl73 := hl73.mono S389
        have h81 := h81.mono S389
        have h95 := S389 _ _ h95
        have hl96 := hl96.mono S389
        have h126 := h126.mono S389
        have h133 := h133.mono S389
        have h140 := h140.mono S389
        have h147 := h147.mono S389
        have h155 := h155.mono S389
        have h162 := h162.mono S389
        have h169 := h169.mono S389
        have h176 := h176.mono S389
        have h184 := h184.mono S389
        have h188 := h188.mono S389
        have h195 := h195.mono S389
        have h202 := h202.mono S389
        have h209 := h209.mono S389
        have h216 := h216.mono S389
        have h224 := h224.mono S389
        have h231 := h231.mono S389
        have h238 := h238.mono S389
        have h245 := h245.mono S389
        have h253 := h253.mono S389
        have h258 := S389 _ _ h258
        have hl259 := hl259.mono S389
        have h263 := S389 _ _ h263
        have hl264 := hl264.mono S389
        have h272 := h272.mono S389
        have h276 := h276.mono S389
        have h280 := S389 _ _ h280
        have hl281 := hl281.mono S389
        have r286 := r286.mono S389
        have h299 := S389 _ _ h299
        have hl300 := hl300.mono S389
        have r305 := r305.mono S389
        have h322 := h322.mono S389
        have h329 := h329.mono S389
        have h336 := h336.mono S389
        have h344 := h344.mono S389
        have h345 := h345.mono S389
        have h343 := h343.mono S389
        have hl363 := hl363.mono S389
        have h379 := h379.mono S389
        obtain ⟨p391, w392, e393, h394, hl395⟩ := R.lst_ h390
        cases e393
        obtain ⟨y396, e397, hk⟩ := wp_opt hk
        obtain ⟨w398, e399, r400⟩ := hl395.atI e397
        obtain ⟨p401, w402, e403, h404, hl405⟩ := R.lst_ h390
        cases e403
        obtain ⟨y406, e407, hk⟩ := wp_opt hk
        obtain ⟨w408, e409, r410⟩ := hl405.atI e407
        obtain ⟨p411, w412, e413, h414, hl415⟩ := R.lst_ h390
        cases e413
        obtain ⟨y416, e417, hk⟩ := wp_opt hk
        obtain ⟨w418, e419, r420⟩ := hl415.atI e417
        refine ⟨_, rfl, _, _, _, _, rfl, rfl, (SqLF O388.s h394), e399, _, rfl, _, _, _, _, rfl, rfl, (SqLF O388.s h404), e409, _, rfl, _, _, _, _, rfl, rfl, (SqLF O388.s h414), e419, _, rfl, _, _, _, _, rfl, rfl, (SqTF O388.s h4), rfl, (by show 4 ≤ sizeLine; decide), fun p421 hp422 => ?_⟩
        obtain ⟨F423, O424, S425, h426⟩ := O388.putE hp422 (.tup [w398, w408, w418, v8])
        have f_rule := f_rule.mono S425
        have h4 := S425 _ _ h4
        have r9 := r9.mono S425
        have r10 := r10.mono S425
        have r11 := r11.mono S425
        have r12 := r12.mono S425
        have h18 := S425 _ _ h18
        have hl19 := hl19.mono S425
        have hl73 := hl73.mono S425
        have h81 := h81.mono S425
        have h95 := S425 _ _ h95
        have hl96 := hl96.mono S425
        have h126 := h126.mono S425
        have h133 := h133.mono S425
        have h140 := h140.mono S425
        have h147 := h147.mono S425
        have h155 := h155.mono S425
        have h162 := h162.mono S425
        have h169 := h169.mono S425
        have h176 := h176.mono S425
        have h184 := h184.mono S425
        have h188 := h188.mono S425
        have h195 := h195.mono S425
        have h202 := h202.mono S425
        have h209 := h209.mono S425
        have h216 := h216.mono S425
        have h224 := h224.mono S425
        have h231 := h231.mono S425
        have h238 := h238.mono S425
        have h245 := h245.mono S425
        have h253 := h253.mono S425
        have h258 := S425 _ _ h258
        have hl259 := hl259.mono S425
        have h263 := S425 _ _ h263
        have hl264 := hl264.mono S425
        have h272 := h272.mono S425
        have h276 := h276.mono S425
        have h280 := S425 _ _ h280
        have hl281 := hl281.mono S425
        have r286 := r286.mono S425
        have h299 := S425 _ _ h299
        have hl300 := hl300.mono S425
        have r305 := r305.mono S425
        have h322 := h322.mono S425
        have h329 := h329.mono S425
        have h336 := h336.mono S425
        have h344 := h344.mono S425
        have h345 := h345.mono S425
        have h343 := h343.mono S425
        have hl363 := hl363.mono S425
        have h379 := h379.mono S425
        have h390 := h390.mono S425
        have h394 := S425 _ _ h394
        have hl395 := hl395.mono S425
        have r400 := r400.mono S425
        have h404 := S425 _ _ h404
        have hl405 := hl405.mono S425
        have r410 := r410.mono S425
        have h414 := S425 _ _ h414
        have hl415 := hl415.mono S425
        have r420 := r420.mono S425
        have h427 : R (a := (T4 (List Sm) (List Sm) (List Sm) Sm)) F423 (.ref p421) (T4.mk y396 y406 y416 x_rule.d) := R.t4 h426 r400 r410 r420 r12
        exact hk _ _ w361 O424.g (O424.at 0 rfl) hl363 _ h427
      · have hk := wp_el hk q355
        refine ⟨_, rfl, _, _, R.int, R.int, _, rfl, ?_⟩
        refine iteD (fun q428 => ?_) (fun q428 => ?_)
        · have hk := wp_if hk q428
          obtain ⟨F429, O430, S431, h432⟩ := Ow.llFrz (S := [(a_deck, .lst w351)]) (p := p26) (ps := wa59) O354 z54 zs65 hl62
          have f_rule := f_rule.mono S431
          have h4 := S431 _ _ h4
          have r9 := r9.mono S431
          have r10 := r10.mono S431
          have r11 := r11.mono S431
          have r12 := r12.mono S431
          have h18 := S431 _ _ h18
          have hl19 := hl19.mono S431
          have hl73 := hl73.mono S431
          have h81 := h81.mono S431
          have h95 := S431 _ _ h95
          have hl96 := hl96.mono S431
          have h126 := h126.mono S431
          have h133 := h133.mono S431
          have h140 := h140.mono S431
          have h147 := h147.mono S431
          have h155 := h155.mono S431
          have h162 := h162.mono S431
          have h169 := h169.mono S431
          have h176 := h176.mono S431
          have h184 := h184.mono S431
          have h188 := h188.mono S431
          have h195 := h195.mono S431
          have h202 := h202.mono S431
          have h209 := h209.mono S431
          have h216 := h216.mono S431
          have h224 := h224.mono S431
          have h231 := h231.mono S431
          have h238 := h238.mono S431
          have h245 := h245.mono S431
          have h253 := h253.mono S431
          have h258 := S431 _ _ h258
          have hl259 := hl259.mono S431
          have h263 := S431 _ _ h263
          have hl264 := hl264.mono S431
          have h272 := h272.mono S431
          have h276 := h276.mono S431
          have h280 := S431 _ _ h280
          have hl281 := hl281.mono S431
          have r286 := r286.mono S431
          have h299 := S431 _ _ h299
          have hl300 := hl300.mono S431
          have r305 := r305.mono S431
          have h322 := h322.mono S431
          have h329 := h329.mono S431
          have h336 := h336.mono S431
          have h344 := h344.mono S431
          have h345 := h345.mono S431
          have h343 := h343.mono S431
          have hl353 := hl353.mono S431
          obtain ⟨p433, w434, e435, h436, hl437⟩ := R.lst_ h432
          cases e435
          obtain ⟨c443, L439, hL440, hLs441, hLd442⟩ := compS_L hk
          refine ⟨_, rfl, _, rfl, ⟨_, (SqLF O430.s h436)⟩, fun p444 hp445 => ?_⟩
          have z509 := O430.was hp445
          refine lc_list (K := K) (xs := w434) (fun i H => ∃ (F_ : Hp) (st : Unit) (acc : List (List Sm)) (wa : List V), Same F429 F_ ∧ Ow _ F_ [(p444, .lst wa), (a_deck, .lst w351)] H ∧ RL F_ wa acc ∧ wa.length ≤ i ∧ L439 (List.drop i acc58) acc st) ⟨F429, (), [], [], Same.refl _, O430.new hp445, RL.nil, Nat.zero_le _, hL440⟩ (fun i_ H_ _ hp_ => ?_) ?_ ?_
          · obtain ⟨_, _, _, _, hS_, hO_, _⟩ := hp_
            exact SqLF hO_.s (hS_ _ _ h436)
          · rintro i446 x447 H448 hi449 ⟨F454, st455, acc451, wa452, S456, O458, hl457, la453, hL440⟩
            have f_rule := f_rule.mono S456
            have h4 := S456 _ _ h4
            have r9 := r9.mono S456
            have r10 := r10.mono S456
            have r11 := r11.mono S456
            have r12 := r12.mono S456
            have h18 := S456 _ _ h18
            have hl19 := hl19.mono S456
            have hl73 := hl73.mono S456
            have h81 := h81.mono S456
            have h95 := S456 _ _ h95
            have hl96 := hl96.mono S456
            have h126 := h126.mono S456
            have h133 := h133.mono S456
            have h140 := h140.mono S456
            have h147 := h147.mono S456
            have h155 := h155.mono S456
            have h162 := h162.mono S456
            have h169 := h169.mono S456
            have h176 := h176.mono S456
            have h184 := h184.mono S456
            have h188 := h188.mono S456
            have h195 := h195.mono S456
            have h202 := h202.mono S456
            have h209 := h209.mono S456
            have h216 := h216.mono S456
            have h224 := h224.mono S456
            have h231 := h231.mono S456
            have h238 := h238.mono S456
            have h245 := h245.mono S456
            have h253 := h253.mono S456
            have h258 := S456 _ _ h258
            have hl259 := hl259.mono S456
            have h263 := S456 _ _ h263
            have hl264 := hl264.mono S456
            have h272 := h272.mono S456
            have h276 := h276.mono S456
            have h280 := S456 _ _ h280
            have hl281 := hl281.mono S456
            have r286 := r286.mono S456
            have h299 := S456 _ _ h299
            have hl300 := hl300.mono S456
            have r305 := r305.mono S456
            have h322 := h322.mono S456
            have h329 := h329.mono S456
            have h336 := h336.mono S456
            have h344 := h344.mono S456
            have h345 := h345.mono S456
            have h343 := h343.mono S456
            have hl353 := hl353.mono S456
            have h432 := h432.mono S456
            have h436 := S456 _ _ h436
            have hl437 := hl437.mono S456
            obtain ⟨y438, e459, r460⟩ := RL.got hl437 hi449
            rw [drop_at e459] at hL440
            have hk := hLs441 _ _ _ _ hL440
            refine ⟨rfl, ?_⟩
            refine ⟨_, rfl, (by show 2 ≤ sizeLine; decide), fun p461 hp462 => ?_⟩
            obtain ⟨F463, O464, S465, h466⟩ := O458.putE hp462 (.tup [V.str ("number" : Str), V.int (1 : Int)])
            have f_rule := f_rule.mono S465
            have h4 := S465 _ _ h4
            have r9 := r9.mono S465
            have r10 := r10.mono S465
            have r11 := r11.mono S465
            have r12 := r12.mono S465
            have h18 := S465 _ _ h18
            have hl19 := hl19.mono S465
            have hl73 := hl73.mono S465
            have h81 := h81.mono S465
            have h95 := S465 _ _ h95
            have hl96 := hl96.mono S465
            have h126 := h126.mono S465
            have h133 := h133.mono S465
            have h140 := h140.mono S465
            have h147 := h147.mono S465
            have h155 := h155.mono S465
            have h162 := h162.mono S465
            have h169 := h169.mono S465
            have h176 := h176.mono S465
            have h184 := h184.mono S465
            have h188 := h188.mono S465
            have h195 := h195.mono S465
            have h202 := h202.mono S465
            have h209 := h209.mono S465
            have h216 := h216.mono S465
            have h224 := h224.mono S465
            have h231 := h231.mono S465
            have h238 := h238.mono S465
            have h245 := h245.mono S465
            have h253 := h253.mono S465
            have h258 := S465 _ _ h258
            have hl259 := hl259.mono S465
            have h263 := S465 _ _ h263
            have hl264 := hl264.mono S465
            have h272 := h272.mono S465
            have h276 := h276.mono S465
            have h280 := S465 _ _ h280
            have hl281 := hl281.mono S465
            have r286 := r286.mono S465
            have h299 := S465 _ _ h299
            have hl300 := hl300.mono S465
            have r305 := r305.mono S465
            have h322 := h322.mono S465
            have h329 := h329.mono S465
            have h336 := h336.mono S465
            have h344 := h344.mono S465
            have h345 := h345.mono S465
            have h343 := h343.mono S465
            have hl353 := hl353.mono S465
            have h432 := h432.mono S465
            have h436 := S465 _ _ h436
            have hl437 := hl437.mono S465
            have S456 := S456.trans S465
            have hl457 := hl457.mono S465
            have r460 := r460.mono S465
            have h467 : R (a := (Str × Int)) F463 (.ref p461) (("number" : Str), (1 : Int)) := R.t2 h466 R.str R.int
            refine ⟨(by show 1 ≤ sizeLine; decide), fun p468 hp469 => ?_⟩
            have hl475 : RL (a := Sm) F463 ([V.ref p461]) ([(Sm.num (("number" : Str), (1 : Int)).1 (("number" : Str), (1 : Int)).2)]) := RL.cons (R.of_num h467) RL.nil
            obtain ⟨F470, O471, S472, h473⟩ := O464.putE hp469 (.lst ([V.ref p461]))
            have f_rule := f_rule.mono S472
            have h4 := S472 _ _ h4
            have r9 := r9.mono S472
            have r10 := r10.mono S472
            have r11 := r11.mono S472
            have r12 := r12.mono S472
            have h18 := S472 _ _ h18
            have hl19 := hl19.mono S472
            have hl73 := hl73.mono S472
            have h81 := h81.mono S472
            have h95 := S472 _ _ h95
            have hl96 := hl96.mono S472
            have h126 := h126.mono S472
            have h133 := h133.mono S472
            have h140 := h140.mono S472
            have h147 := h147.mono S472
            have h155 := h155.mono S472
            have h162 := h162.mono S472
            have h169 := h169.mono S472
            have h176 := h176.mono S472
            have h184 := h184.mono S472
            have h188 := h188.mono S472
            have h195 := h195.mono S472
            have h202 := h202.mono S472
            have h209 := h209.mono S472
            have h216 := h216.mono S472
            have h224 := h224.mono S472
            have h231 := h231.mono S472
            have h238 := h238.mono S472
            have h245 := h245.mono S472
            have h253 := h253.mono S472
            have h258 := S472 _ _ h258
            have hl259 := hl259.mono S472
            have h263 := S472 _ _ h263
            have hl264 := hl264.mono S472
            have h272 := h272.mono S472
            have h276 := h276.mono S472
            have h280 := S472 _ _ h280
            have hl281 := hl281.mono S472
            have r286 := r286.mono S472
            have h299 := S472 _ _ h299
            have hl300 := hl300.mono S472
            have r305 := r305.mono S472
            have h322 := h322.mono S472
            have h329 := h329.mono S472
            have h336 := h336.mono S472
            have h344 := h344.mono S472
            have h345 := h345.mono S472
            have h343 := h343.mono S472
            have hl353 := hl353.mono S472
            have h432 := h432.mono S472
            have h436 := S472 _ _ h436
            have hl437 := hl437.mono S472
            have S456 := S456.trans S472
            have hl457 := hl457.mono S472
            have r460 := r460.mono S472
            have h467 := h467.mono S472
            have hl475 := hl475.mono S472
            have h474 := R.lst (a := Sm) h473 hl475
            obtain ⟨p476, w477, e478, h479, hl480⟩ := R.lst_ h474
            cases e478
            obtain ⟨c481, hk⟩ := wp_chk hk
            refine ⟨_, rfl, _, _, rfl, rfl, _, _, _, rfl, rfl, (O471.s _ _ h479), c481.1, c481.2.1, (by rw [hl480.len]; exact le_line c481.2.2), fun p482 hp483 => ?_⟩
            have hl489 : RL (a := Sm) F470 (repL ((4 : Int) - (y67.length : Int)) w477) (repL ((4 : Int) - (y67.length : Int)) ([(Sm.num (("number" : Str), (1 : Int)).1 (("number" : Str), (1 : Int)).2)])) := RL.rep hl480 ((4 : Int) - (y67.length : Int))
            obtain ⟨F484, O485, S486, h487⟩ := O471.putE hp483 (.lst (repL ((4 : Int) - (y67.length : Int)) w477))
            have f_rule := f_rule.mono S486
            have h4 := S486 _ _ h4
            have r9 := r9.mono S486
            have r10 := r10.mono S486
            have r11 := r11.mono S486
            have r12 := r12.mono S486
            have h18 := S486 _ _ h18
            have hl19 := hl19.mono S486
            have hl73 := hl73.mono S486
            have h81 := h81.mono S486
            have h95 := S486 _ _ h95
            have hl96 := hl96.mono S486
            have h126 := h126.mono S486
            have h133 := h133.mono S486
            have h140 := h140.mono S486
            have h147 := h147.mono S486
            have h155 := h155.mono S486
            have h162 := h162.mono S486
            have h169 := h169.mono S486
            have h176 := h176.mono S486
            have h184 := h184.mono S486
            have h188 := h188.mono S486
            have h195 := h195.mono S486
            have h202 := h202.mono S486
            have h209 := h209.mono S486
            have h216 := h216.mono S486
            have h224 := h224.mono S486
            have h231 := h231.mono S486
            have h238 := h238.mono S486
            have h245 := h245.mono S486
            have h253 := h253.mono S486
            have h258 := S486 _ _ h258
            have hl259 := hl259.mono S486
            have h263 := S486 _ _ h263
            have hl264 := hl264.mono S486
            have h272 := h272.mono S486
            have h276 := h276.mono S486
            have h280 := S486 _ _ h280
            have hl281 := hl281.mono S486
            have r286 := r286.mono S486
            have h299 := S486 _ _ h299
            have hl300 := hl300.mono S486
            have r305 := r305.mono S486
            have h322 := h322.mono S486
            have h329 := h329.mono S486
            have h336 := h336.mono S486
            have h344 := h344.mono S486
            have h345 := h345.mono S486
            have h343 := h343.mono S486
            have hl353 := hl353.mono S486
            have h432 := h432.mono S486
            have h436 := S486 _ _ h436
            have hl437 := hl437.mono S486
            have S456 := S456.trans S486
            have hl457 := hl457.mono S486
            have r460 := r460.mono S486
            have h467 := h467.mono S486
            have h474 := h474.mono S486
            have h479 := S486 _ _ h479
            have hl480 := hl480.mono S486
            have hl489 := hl489.mono S486
            have h488 := R.lst (a := Sm) h487 hl489
            obtain ⟨p490, w491, e492, h493, hl494⟩ := R.lst_ r460
            cases e492
            obtain ⟨p495, w496, e497, h498, hl499⟩ := R.lst_ h488
            cases e497
            obtain ⟨c500, hk⟩ := wp_chk hk
            refine ⟨_, _, _, _, rfl, rfl, (O485.s _ _ h493), (O485.s _ _ h498), (by rw [hl494.len, hl499.len]; exact le_line c500), fun p501 hp502 => ?_⟩
            have hl508 : RL (a := Sm) F484 (w491 ++ w496) (y438 ++ (repL ((4 : Int) - (y67.length : Int)) ([(Sm.num (("number" : Str), (1 : Int)).1 (("number" : Str), (1 : Int)).2)]))) := RL.app hl494 hl499
            obtain ⟨F503, O504, S505, h506⟩ := O485.putE hp502 (.lst (w491 ++ w496))
            have f_rule := f_rule.mono S505
            have h4 := S505 _ _ h4
            have r9 := r9.mono S505
            have r10 := r10.mono S505
            have r11 := r11.mono S505
            have r12 := r12.mono S505
            have h18 := S505 _ _ h18
            have hl19 := hl19.mono S505
            have hl73 := hl73.mono S505
            have h81 := h81.mono S505
            have h95 := S505 _ _ h95
            have hl96 := hl96.mono S505
            have h126 := h126.mono S505
            have h133 := h133.mono S505
            have h140 := h140.mono S505
            have h147 := h147.mono S505
            have h155 := h155.mono S505
            have h162 := h162.mono S505
            have h169 := h169.mono S505
            have h176 := h176.mono S505
            have h184 := h184.mono S505
            have h188 := h188.mono S505
            have h195 := h195.mono S505
            have h202 := h202.mono S505
            have h209 := h209.mono S505
            have h216 := h216.mono S505
            have h224 := h224.mono S505
            have h231 := h231.mono S505
            have h238 := h238.mono S505
            have h245 := h245.mono S505
            have h253 := h253.mono S505
            have h258 := S505 _ _ h258
            have hl259 := hl259.mono S505
            have h263 := S505 _ _ h263
            have hl264 := hl264.mono S505
            have h272 := h272.mono S505
            have h276 := h276.mono S505
            have h280 := S505 _ _ h280
            have hl281 := hl281.mono S505
            have r286 := r286.mono S505
            have h299 := S505 _ _ h299
            have hl300 := hl300.mono S505
            have r305 := r305.mono S505
            have h322 := h322.mono S505
            have h329 := h329.mono S505
            have h336 := h336.mono S505
            have h344 := h344.mono S505
            have h345 := h345.mono S505
            have h343 := h343.mono S505
            have hl353 := hl353.mono S505
            have h432 := h432.mono S505
            have h436 := S505 _ _ h436
            have hl437 := hl437.mono S505
            have S456 := S456.trans S505
            have hl457 := hl457.mono S505
            have r460 := r460.mono S505
            have h467 := h467.mono S505
            have h474 := h474.mono S505
            have h479 := S505 _ _ h479
            have hl480 := hl480.mono S505
            have h488 := h488.mono S505
            have h493 := S505 _ _ h493
            have hl494 := hl494.mono S505
            have h498 := S505 _ _ h498
            have hl499 := hl499.mono S505
            have hl508 := hl508.mono S505
            have h507 := R.lst (a := Sm) h506 hl508
            refine ⟨_, (O504.at 0 rfl), (comp_len la453 hi449 hl437.len c443), ?_⟩
            exact ⟨F503, (), acc451 ++ [(y438 ++ (repL ((4 : Int) - (y67.length : Int)) ([(Sm.num (("number" : Str), (1 : Int)).1 (("number" : Str), (1 : Int)).2)])))], wa452 ++ [V.ref p501], S456, O504.set 0 (.lst (wa452 ++ [V.ref p501])) rfl, RL.snoc hl457 h507, by rw [List.length_append]; exact Nat.succ_le_succ la453, hk⟩
          rintro H510 ⟨F511, st512, acc513, wa514, S515, O516, hl517, la518, hL519⟩
          rw [drop_end hl437.len] at hL519
          have hk := hLd442 _ _ hL519
          have f_rule := f_rule.mono S515
          have h4 := S515 _ _ h4
          have r9 := r9.mono S515
          have r10 := r10.mono S515
          have r11 := r11.mono S515
          have r12 := r12.mono S515
          have h18 := S515 _ _ h18
          have hl19 := hl19.mono S515
          have hl73 := hl73.mono S515
          have h81 := h81.mono S515
          have h95 := S515 _ _ h95
          have hl96 := hl96.mono S515
          have h126 := h126.mono S515
          have h133 := h133.mono S515
          have h140 := h140.mono S515
          have h147 := h147.mono S515
          have h155 := h155.mono S515
          have h162 := h162.mono S515
          have h169 := h169.mono S515
          have h176 := h176.mono S515
          have h184 := h184.mono S515
          have h188 := h188.mono S515
          have h195 := h195.mono S515
          have h202 := h202.mono S515
          have h209 := h209.mono S515
          have h216 := h216.mono S515
          have h224 := h224.mono S515
          have h231 := h231.mono S515
          have h238 := h238.mono S515
          have h245 := h245.mono S515
          have h253 := h253.mono S515
          have h258 := S515 _ _ h258
          have hl259 := hl259.mono S515
          have h263 := S515 _ _ h263
          have hl264 := hl264.mono S515
          have h272 := h272.mono S515
          have h276 := h276.mono S515
          have h280 := S515 _ _ h280
          have hl281 := hl281.mono S515
          have r286 := r286.mono S515
          have h299 := S515 _ _ h299
          have hl300 := hl300.mono S515
          have r305 := r305.mono S515
          have h322 := h322.mono S515
          have h329 := h329.mono S515
          have h336 := h336.mono S515
          have h344 := h344.mono S515
          have h345 := h345.mono S515
          have h343 := h343.mono S515
          have hl353 := hl353.mono S515
          have h432 := h432.mono S515
          have h436 := S515 _ _ h436
          have hl437 := hl437.mono S515
          obtain ⟨F521, O522, S523, h524⟩ := O516.frzE 0 rfl z509
          have f_rule := f_rule.mono S523
          have h4 := S523 _ _ h4
          have r9 := r9.mono S523
          have r10 := r10.mono S523
          have r11 := r11.mono S523
          have r12 := r12.mono S523
          have h18 := S523 _ _ h18
          have hl19 := hl19.mono S523
          have hl73 := hl73.mono S523
          have h81 := h81.mono S523
          have h95 := S523 _ _ h95
          have hl96 := hl96.mono S523
          have h126 := h126.mono S523
          have h133 := h133.mono S523
          have h140 := h140.mono S523
          have h147 := h147.mono S523
          have h155 := h155.mono S523
          have h162 := h162.mono S523
          have h169 := h169.mono S523
          have h176 := h176.mono S523
          have h184 := h184.mono S523
          have h188 := h188.mono S523
          have h195 := h195.mono S523
          have h202 := h202.mono S523
          have h209 := h209.mono S523
          have h216 := h216.mono S523
          have h224 := h224.mono S523
          have h231 := h231.mono S523
          have h238 := h238.mono S523
          have h245 := h245.mono S523
          have h253 := h253.mono S523
          have h258 := S523 _ _ h258
          have hl259 := hl259.mono S523
          have h263 := S523 _ _ h263
          have hl264 := hl264.mono S523
          have h272 := h272.mono S523
          have h276 := h276.mono S523
          have h280 := S523 _ _ h280
          have hl281 := hl281.mono S523
          have r286 := r286.mono S523
          have h299 := S523 _ _ h299
          have hl300 := hl300.mono S523
          have r305 := r305.mono S523
          have h322 := h322.mono S523
          have h329 := h329.mono S523
          have h336 := h336.mono S523
          have h344 := h344.mono S523
          have h345 := h345.mono S523
          have h343 := h343.mono S523
          have hl353 := hl353.mono S523
          have h432 := h432.mono S523
          have h436 := S523 _ _ h436
          have hl437 := hl437.mono S523
          have hl517 := hl517.mono S523
          have h525 := R.lst (a := (List Sm)) h524 hl517
          obtain ⟨p526, w527, e528, h529, hl530⟩ := R.lst_ h525
          cases e528
          obtain ⟨y531, e532, hk⟩ := wp_opt hk
          obtain ⟨w533, e534, r535⟩ := hl530.atI e532
          obtain ⟨p536, w537, e538, h539, hl540⟩ := R.lst_ h525
          cases e538
          obtain ⟨y541, e542, hk⟩ := wp_opt hk
          obtain ⟨w543, e544, r545⟩ := hl540.atI e542
          obtain ⟨p546, w547, e548, h549, hl550⟩ := R.lst_ h525
          cases e548
          obtain ⟨y551, e552, hk⟩ := wp_opt hk
          obtain ⟨w553, e554, r555⟩ := hl550.atI e552
          refine ⟨_, rfl, _, _, _, _, rfl, rfl, (SqLF O522.s h529), e534, _, rfl, _, _, _, _, rfl, rfl, (SqLF O522.s h539), e544, _, rfl, _, _, _, _, rfl, rfl, (SqLF O522.s h549), e554, _, rfl, _, _, _, _, rfl, rfl, (SqTF O522.s h4), rfl, (by show 4 ≤ sizeLine; decide), fun p556 hp557 => ?_⟩
          obtain ⟨F558, O559, S560, h561⟩ := O522.putE hp557 (.tup [w533, w543, w553, v8])
          have f_rule := f_rule.mono S560
          have h4 := S560 _ _ h4
          have r9 := r9.mono S560
          have r10 := r10.mono S560
          have r11 := r11.mono S560
          have r12 := r12.mono S560
          have h18 := S560 _ _ h18
          have hl19 := hl19.mono S560
          have hl73 := hl73.mono S560
          have h81 := h81.mono S560
          have h95 := S560 _ _ h95
          have hl96 := hl96.mono S560
          have h126 := h126.mono S560
          have h133 := h133.mono S560
          have h140 := h140.mono S560
          have h147 := h147.mono S560
          have h155 := h155.mono S560
          have h162 := h162.mono S560
          have h169 := h169.mono S560
          have h176 := h176.mono S560
          have h184 := h184.mono S560
          have h188 := h188.mono S560
          have h195 := h195.mono S560
          have h202 := h202.mono S560
          have h209 := h209.mono S560
          have h216 := h216.mono S560
          have h224 := h224.mono S560
          have h231 := h231.mono S560
          have h238 := h238.mono S560
          have h245 := h245.mono S560
          have h253 := h253.mono S560
          have h258 := S560 _ _ h258
          have hl259 := hl259.mono S560
          have h263 := S560 _ _ h263
          have hl264 := hl264.mono S560
          have h272 := h272.mono S560
          have h276 := h276.mono S560
          have h280 := S560 _ _ h280
          have hl281 := hl281.mono S560
          have r286 := r286.mono S560
          have h299 := S560 _ _ h299
          have hl300 := hl300.mono S560
          have r305 := r305.mono S560
          have h322 := h322.mono S560
          have h329 := h329.mono S560
          have h336 := h336.mono S560
          have h344 := h344.mono S560
          have h345 := h345.mono S560
          have h343 := h343.mono S560
          have hl353 := hl353.mono S560
          have h432 := h432.mono S560
          have h436 := S560 _ _ h436
          have hl437 := hl437.mono S560
          have h525 := h525.mono S560
          have h529 := S560 _ _ h529
          have hl530 := hl530.mono S560
          have r535 := r535.mono S560
          have h539 := S560 _ _ h539
          have hl540 := hl540.mono S560
          have r545 := r545.mono S560
          have h549 := S560 _ _ h549
          have hl550 := hl550.mono S560
          have r555 := r555.mono S560
          have h562 : R (a := (T4 (List Sm) (List Sm) (List Sm) Sm)) F558 (.ref p556) (T4.mk y531 y541 y551 x_rule.d) := R.t4 h561 r535 r545 r555 r12
          exact hk _ _ w351 O559.g (O559.at 0 rfl) hl353 _ h562
        · have hk := wp_el hk q428
          refine ⟨_, rfl, _, _, R.int, R.int, _, rfl, ?_⟩
          refine iteD (fun q563 => ?_) (fun q563 => ?_)
          · have hk := wp_if hk q563
            obtain ⟨F564, O565, S566, h567⟩ := Ow.llFrz (S := [(a_deck, .lst w351)]) (p := p26) (ps := wa59) O354 z54 zs65 hl62
            have f_rule := f_rule.mono S566
            have h4 := S566 _ _ h4
            have r9 := r9.mono S566
            have r10 := r10.mono S566
            have r11 := r11.mono S566
            have r12 := r12.mono S566
            have h18 := S566 _ _ h18
            have hl19 := hl19.mono S566
            have hl73 := hl73.mono S566
            have h81 := h81.mono S566
            have h95 := S566 _ _ h95
            have hl96 := hl96.mono S566
            have h126 := h126.mono S566
            have h133 := h133.mono S566
            have h140 := h140.mono S566
            have h147 := h147.mono S566
            have h155 := h155.mono S566
            have h162 := h162.mono S566
            have h169 := h169.mono S566
            have h176 := h176.mono S566
            have h184 := h184.mono S566
            have h188 := h188.mono S566
            have h195 := h195.mono S566
            have h202 := h202.mono S566
            have h209 := h209.mono S566
            have h216 := h216.mono S566
            have h224 := h224.mono S566
            have h231 := h231.mono S566
            have h238 := h238.mono S566
            have h245 := h245.mono S566
            have h253 := h253.mono S566
            have h258 := S566 _ _ h258
            have hl259 := hl259.mono S566
            have h263 := S566 _ _ h263
            have hl264 := hl264.mono S566
            have h272 := h272.mono S566
            have h276 := h276.mono S566
            have h280 := S566 _ _ h280
            have hl281 := hl281.mono S566
            have r286 := r286.mono S566
            have h299 := S566 _ _ h299
            have hl300 := hl300.mono S566
            have r305 := r305.mono S566
            have h322 := h322.mono S566
            have h329 := h329.mono S566
            have h336 := h336.mono S566
            have h344 := h344.mono S566
            have h345 := h345.mono S566
            have h343 := h343.mono S566
            have hl353 := hl353.mono S566
            refine ⟨(by show 0 ≤ sizeLine; decide), fun p568 hp569 => ?_⟩
            have hl575 : RL (a := Sm) F564 ([]) ([] : List Sm) := RL.nil
            obtain ⟨F570, O571, S572, h573⟩ := O565.putE hp569 (.lst ([]))
            have f_rule := f_rule.mono S572
            have h4 := S572 _ _ h4
            have r9 := r9.mono S572
            have r10 := r10.mono S572
            have r11 := r11.mono S572
            have r12 := r12.mono S572
            have h18 := S572 _ _ h18
            have hl19 := hl19.mono S572
            have hl73 := hl73.mono S572
            have h81 := h81.mono S572
            have h95 := S572 _ _ h95
            have hl96 := hl96.mono S572
            have h126 := h126.mono S572
            have h133 := h133.mono S572
            have h140 := h140.mono S572
            have h147 := h147.mono S572
            have h155 := h155.mono S572
            have h162 := h162.mono S572
            have h169 := h169.mono S572
            have h176 := h176.mono S572
            have h184 := h184.mono S572
            have h188 := h188.mono S572
            have h195 := h195.mono S572
            have h202 := h202.mono S572
            have h209 := h209.mono S572
            have h216 := h216.mono S572
            have h224 := h224.mono S572
            have h231 := h231.mono S572
            have h238 := h238.mono S572
            have h245 := h245.mono S572
            have h253 := h253.mono S572
            have h258 := S572 _ _ h258
            have hl259 := hl259.mono S572
            have h263 := S572 _ _ h263
            have hl264 := hl264.mono S572
            have h272 := h272.mono S572
            have h276 := h276.mono S572
            have h280 := S572 _ _ h280
            have hl281 := hl281.mono S572
            have r286 := r286.mono S572
            have h299 := S572 _ _ h299
            have hl300 := hl300.mono S572
            have r305 := r305.mono S572
            have h322 := h322.mono S572
            have h329 := h329.mono S572
            have h336 := h336.mono S572
            have h344 := h344.mono S572
            have h345 := h345.mono S572
            have h343 := h343.mono S572
            have hl353 := hl353.mono S572
            have h567 := h567.mono S572
            have hl575 := hl575.mono S572
            have h574 := R.lst (a := Sm) h573 hl575
            refine ⟨(by show 0 ≤ sizeLine; decide), fun p576 hp577 => ?_⟩
            have hl583 : RL (a := Sm) F570 ([]) ([] : List Sm) := RL.nil
            obtain ⟨F578, O579, S580, h581⟩ := O571.putE hp577 (.lst ([]))
            have f_rule := f_rule.mono S580
            have h4 := S580 _ _ h4
            have r9 := r9.mono S580
            have r10 := r10.mono S580
            have r11 := r11.mono S580
            have r12 := r12.mono S580
            have h18 := S580 _ _ h18
            have hl19 := hl19.mono S580
            have hl73 := hl73.mono S580
            have h81 := h81.mono S580
            have h95 := S580 _ _ h95
            have hl96 := hl96.mono S580
            have h126 := h126.mono S580
            have h133 := h133.mono S580
            have h140 := h140.mono S580
            have h147 := h147.mono S580
            have h155 := h155.mono S580
            have h162 := h162.mono S580
            have h169 := h169.mono S580
            have h176 := h176.mono S580
            have h184 := h184.mono S580
            have h188 := h188.mono S580
            have h195 := h195.mono S580
            have h202 := h202.mono S580
            have h209 := h209.mono S580
            have h216 := h216.mono S580
            have h224 := h224.mono S580
            have h231 := h231.mono S580
            have h238 := h238.mono S580
            have h245 := h245.mono S580
            have h253 := h253.mono S580
            have h258 := S580 _ _ h258
            have hl259 := hl259.mono S580
            have h263 := S580 _ _ h263
            have hl264 := hl264.mono S580
            have h272 := h272.mono S580
            have h276 := h276.mono S580
            have h280 := S580 _ _ h280
            have hl281 := hl281.mono S580
            have r286 := r286.mono S580
            have h299 := S580 _ _ h299
            have hl300 := hl300.mono S580
            have r305 := r305.mono S580
            have h322 := h322.mono S580
            have h329 := h329.mono S580
            have h336 := h336.mono S580
            have h344 := h344.mono S580
            have h345 := h345.mono S580
            have h343 := h343.mono S580
            have hl353 := hl353.mono S580
            have h567 := h567.mono S580
            have h574 := h574.mono S580
            have hl583 := hl583.mono S580
            have h582 := R.lst (a := Sm) h581 hl583
            refine ⟨(by show 0 ≤ sizeLine; decide), fun p584 hp585 => ?_⟩
            have hl591 : RL (a := Sm) F578 ([]) ([] : List Sm) := RL.nil
            obtain ⟨F586, O587, S588, h589⟩ := O579.putE hp585 (.lst ([]))
            have f_rule := f_rule.mono S588
            have h4 := S588 _ _ h4
            have r9 := r9.mono S588
            have r10 := r10.mono S588
            have r11 := r11.mono S588
            have r12 := r12.mono S588
            have h18 := S588 _ _ h18
            have hl19 := hl19.mono S588
            have hl73 := hl73.mono S588
            have h81 := h81.mono S588
            have h95 := S588 _ _ h95
            have hl96 := hl96.mono S588
            have h126 := h126.mono S588
            have h133 := h133.mono S588
            have h140 := h140.mono S588
            have h147 := h147.mono S588
            have h155 := h155.mono S588
            have h162 := h162.mono S588
            have h169 := h169.mono S588
            have h176 := h176.mono S588
            have h184 := h184.mono S588
            have h188 := h188.mono S588
            have h195 := h195.mono S588
            have h202 := h202.mono S588
            have h209 := h209.mono S588
            have h216 := h216.mono S588
            have h224 := h224.mono S588
            have h231 := h231.mono S588
            have h238 := h238.mono S588
            have h245 := h245.mono S588
            have h253 := h253.mono S588
            have h258 := S588 _ _ h258
            have hl259 := hl259.mono S588
            have h263 := S588 _ _ h263
            have hl264 := hl264.mono S588
            have h272 := h272.mono S588
            have h276 := h276.mono S588
            have h280 := S588 _ _ h280
            have hl281 := hl281.mono S588
            have r286 := r286.mono S588
            have h299 := S588 _ _ h299
            have hl300 := hl300.mono S588
            have r305 := r305.mono S588
            have h322 := h322.mono S588
            have h329 := h329.mono S588
            have h336 := h336.mono S588
            have h344 := h344.mono S588
            have h345 := h345.mono S588
            have h343 := h343.mono S588
            have hl353 := hl353.mono S588
            have h567 := h567.mono S588
            have h574 := h574.mono S588
            have h582 := h582.mono S588
            have hl591 := hl591.mono S588
            have h590 := R.lst (a := Sm) h589 hl591
            refine ⟨(by show 3 ≤ sizeLine; decide), fun p592 hp593 => ?_⟩
            have hl599 : RL (a := (List Sm)) F586 ([V.ref p568, V.ref p576, V.ref p584]) ([([] : List Sm), ([] : List Sm), ([] : List Sm)]) := RL.cons h574 (RL.cons h582 (RL.cons h590 RL.nil))
            obtain ⟨F594, O595, S596, h597⟩ := O587.putE hp593 (.lst ([V.ref p568, V.ref p576, V.ref p584]))
            have f_rule := f_rule.mono S596
            have h4 := S596 _ _ h4
            have r9 := r9.mono S596
            have r10 := r10.mono S596
            have r11 := r11.mono S596
            have r12 := r12.mono S596
            have h18 := S596 _ _ h18
            have hl19 := hl19.mono S596
            have hl73 := hl73.mono S596
            have h81 := h81.mono S596
            have h95 := S596 _ _ h95
            have hl96 := hl96.mono S596
            have h126 := h126.mono S596
            have h133 := h133.mono S596
            have h140 := h140.mono S596
            have h147 := h147.mono S596
            have h155 := h155.mono S596
            have h162 := h162.mono S596
            have h169 := h169.mono S596
            have h176 := h176.mono S596
            have h184 := h184.mono S596
            have h188 := h188.mono S596
            have h195 := h195.mono S596
            have h202 := h202.mono S596
            have h209 := h209.mono S596
            have h216 := h216.mono S596
            have h224 := h224.mono S596
            have h231 := h231.mono S596
            have h238 := h238.mono S596
            have h245 := h245.mono S596
            have h253 := h253.mono S596
            have h258 := S596 _ _ h258
            have hl259 := hl259.mono S596
            have h263 := S596 _ _ h263
            have hl264 := hl264.mono S596
            have h272 := h272.mono S596
            have h276 := h276.mono S596
            have h280 := S596 _ _ h280
            have hl281 := hl281.mono S596
            have r286 := r286.mono S596
            have h299 := S596 _ _ h299
            have hl300 := hl300.mono S596
            have r305 := r305.mono S596
            have h322 := h322.mono S596
            have h329 := h329.mono S596
            have h336 := h336.mono S596
            have h344 := h344.mono S596
            have h345 := h345.mono S596
            have h343 := h343.mono S596
            have hl353 := hl353.mono S596
            have h567 := h567.mono S596
            have h574 := h574.mono S596
            have h582 := h582.mono S596
            have h590 := h590.mono S596
            have hl599 := hl599.mono S596
            have h598 := R.lst (a := (List Sm)) h597 hl599
            obtain ⟨p600, w601, e602, h603, hl604⟩ := R.lst_ h598
            cases e602
            obtain ⟨y605, e606, hk⟩ := wp_opt hk
            obtain ⟨w607, e608, r609⟩ := hl604.atI e606
            obtain ⟨p610, w611, e612, h613, hl614⟩ := R.lst_ h598
            cases e612
            obtain ⟨y615, e616, hk⟩ := wp_opt hk
            obtain ⟨w617, e618, r619⟩ := hl614.atI e616
            obtain ⟨p620, w621, e622, h623, hl624⟩ := R.lst_ h598
            cases e622
            obtain ⟨y625, e626, hk⟩ := wp_opt hk
            obtain ⟨w627, e628, r629⟩ := hl624.atI e626
            refine ⟨_, rfl, _, _, _, _, rfl, rfl, (SqLF O595.s h603), e608, _, rfl, _, _, _, _, rfl, rfl, (SqLF O595.s h613), e618, _, rfl, _, _, _, _, rfl, rfl, (SqLF O595.s h623), e628, _, rfl, _, _, _, _, rfl, rfl, (SqTF O595.s h4), rfl, (by show 4 ≤ sizeLine; decide), fun p630 hp631 => ?_⟩
            obtain ⟨F632, O633, S634, h635⟩ := O595.putE hp631 (.tup [w607, w617, w627, v8])
            have f_rule := f_rule.mono S634
            have h4 := S634 _ _ h4
            have r9 := r9.mono S634
            have r10 := r10.mono S634
            have r11 := r11.mono S634
            have r12 := r12.mono S634
            have h18 := S634 _ _ h18
            have hl19 := hl19.mono S634
            have hl73 := hl73.mono S634
            have h81 := h81.mono S634
            have h95 := S634 _ _ h95
            have hl96 := hl96.mono S634
            have h126 := h126.mono S634
            have h133 := h133.mono S634
            have h140 := h140.mono S634
            have h147 := h147.mono S634
            have h155 := h155.mono S634
            have h162 := h162.mono S634
            have h169 := h169.mono S634
            have h176 := h176.mono S634
            have h184 := h184.mono S634
            have h188 := h188.mono S634
            have h195 := h195.mono S634
            have h202 := h202.mono S634
            have h209 := h209.mono S634
            have h216 := h216.mono S634
            have h224 := h224.mono S634
            have h231 := h231.mono S634
            have h238 := h238.mono S634
            have h245 := h245.mono S634
            have h253 := h253.mono S634
            have h258 := S634 _ _ h258
            have hl259 := hl259.mono S634
            have h263 := S634 _ _ h263
            have hl264 := hl264.mono S634
            have h272 := h272.mono S634
            have h276 := h276.mono S634
            have h280 := S634 _ _ h280
            have hl281 := hl281.mono S634
            have r286 := r286.mono S634
            have h299 := S634 _ _ h299
            have hl300 := hl300.mono S634
            have r305 := r305.mono S634
            have h322 := h322.mono S634
            have h329 := h329.mono S634
            have h336 := h336.mono S634
            have h344 := h344.mono S634
            have h345 := h345.mono S634
            have h343 := h343.mono S634
            have hl353 := hl353.mono S634
            have h567 := h567.mono S634
            have h574 := h574.mono S634
            have h582 := h582.mono S634
            have h590 := h590.mono S634
            have h598 := h598.mono S634
            have h603 := S634 _ _ h603
            have hl604 := hl604.mono S634
            have r609 := r609.mono S634
            have h613 := S634 _ _ h613
            have hl614 := hl614.mono S634
            have r619 := r619.mono S634
            have h623 := S634 _ _ h623
            have hl624 := hl624.mono S634
            have r629 := r629.mono S634
            have h636 : R (a := (T4 (List Sm) (List Sm) (List Sm) Sm)) F632 (.ref p630) (T4.mk y605 y615 y625 x_rule.d) := R.t4 h635 r609 r619 r629 r12
            exact hk _ _ w351 O633.g (O633.at 0 rfl) hl353 _ h636
          · have hk := wp_el hk q563
            refine ⟨_, rfl, _, _, R.int, R.int, _, rfl, ?_⟩
            refine iteD (fun q637 => ?_) (fun q637 => ?_)
            · have hk := wp_if hk q637
              obtain ⟨F638, O639, S640, h641⟩ := Ow.llFrz (S := [(a_deck, .lst w351)]) (p := p26) (ps := wa59) O354 z54 zs65 hl62
              have f_rule := f_rule.mono S640
              have h4 := S640 _ _ h4
              have r9 := r9.mono S640
              have r10 := r10.mono S640
              have r11 := r11.mono S640
              have r12 := r12.mono S640
              have h18 := S640 _ _ h18
              have hl19 := hl19.mono S640
              have hl73 := hl73.mono S640
              have h81 := h81.mono S640
              have h95 := S640 _ _ h95
              have hl96 := hl96.mono S640
              have h126 := h126.mono S640
              have h133 := h133.mono S640
              have h140 := h140.mono S640
              have h147 := h147.mono S640
              have h155 := h155.mono S640
              have h162 := h162.mono S640
              have h169 := h169.mono S640
              have h176 := h176.mono S640
              have h184 := h184.mono S640
              have h188 := h188.mono S640
              have h195 := h195.mono S640
              have h202 := h202.mono S640
              have h209 := h209.mono S640
              have h216 := h216.mono S640
              have h224 := h224.mono S640
              have h231 := h231.mono S640
              have h238 := h238.mono S640
              have h245 := h245.mono S640
              have h253 := h253.mono S640
              have h258 := S640 _ _ h258
              have hl259 := hl259.mono S640
              have h263 := S640 _ _ h263
              have hl264 := hl264.mono S640
              have h272 := h272.mono S640
              have h276 := h276.mono S640
              have h280 := S640 _ _ h280
              have hl281 := hl281.mono S640
              have r286 := r286.mono S640
              have h299 := S640 _ _ h299
              have hl300 := hl300.mono S640
              have r305 := r305.mono S640
              have h322 := h322.mono S640
              have h329 := h329.mono S640
              have h336 := h336.mono S640
              have h344 := h344.mono S640
              have h345 := h345.mono S640
              have h343 := h343.mono S640
              have hl353 := hl353.mono S640
              obtain ⟨p642, w643, e644, h645, hl646⟩ := R.lst_ h641
              cases e644
              obtain ⟨y647, e648, hk⟩ := wp_opt hk
              obtain ⟨w649, e650, r651⟩ := hl646.atI e648
              obtain ⟨p652, w653, e654, h655, hl656⟩ := R.lst_ h641
              cases e654
              obtain ⟨y657, e658, hk⟩ := wp_opt hk
              obtain ⟨w659, e660, r661⟩ := hl656.atI e658
              obtain ⟨p662, w663, e664, h665, hl666⟩ := R.lst_ h641
              cases e664
              obtain ⟨y667, e668, hk⟩ := wp_opt hk
              obtain ⟨w669, e670, r671⟩ := hl666.atI e668
              refine ⟨_, rfl, _, _, _, _, rfl, rfl, (SqLF O639.s h645), e650, _, rfl, _, _, _, _, rfl, rfl, (SqLF O639.s h655), e660, _, rfl, _, _, _, _, rfl, rfl, (SqLF O639.s h665), e670, _, rfl, (by show 4 ≤ sizeLine; decide), fun p672 hp673 => ?_⟩
              have h679 := (R.of_two h343)
              obtain ⟨F674, O675, S676, h677⟩ := O639.putE hp673 (.tup [w649, w659, w669, V.ref p337])
              have f_rule := f_rule.mono S676
              have h4 := S676 _ _ h4
              have r9 := r9.mono S676
              have r10 := r10.mono S676
              have r11 := r11.mono S676
              have r12 := r12.mono S676
              have h18 := S676 _ _ h18
              have hl19 := hl19.mono S676
              have hl73 := hl73.mono S676
              have h81 := h81.mono S676
              have h95 := S676 _ _ h95
              have hl96 := hl96.mono S676
              have h126 := h126.mono S676
              have h133 := h133.mono S676
              have h140 := h140.mono S676
              have h147 := h147.mono S676
              have h155 := h155.mono S676
              have h162 := h162.mono S676
              have h169 := h169.mono S676
              have h176 := h176.mono S676
              have h184 := h184.mono S676
              have h188 := h188.mono S676
              have h195 := h195.mono S676
              have h202 := h202.mono S676
              have h209 := h209.mono S676
              have h216 := h216.mono S676
              have h224 := h224.mono S676
              have h231 := h231.mono S676
              have h238 := h238.mono S676
              have h245 := h245.mono S676
              have h253 := h253.mono S676
              have h258 := S676 _ _ h258
              have hl259 := hl259.mono S676
              have h263 := S676 _ _ h263
              have hl264 := hl264.mono S676
              have h272 := h272.mono S676
              have h276 := h276.mono S676
              have h280 := S676 _ _ h280
              have hl281 := hl281.mono S676
              have r286 := r286.mono S676
              have h299 := S676 _ _ h299
              have hl300 := hl300.mono S676
              have r305 := r305.mono S676
              have h322 := h322.mono S676
              have h329 := h329.mono S676
              have h336 := h336.mono S676
              have h344 := h344.mono S676
              have h345 := h345.mono S676
              have h343 := h343.mono S676
              have hl353 := hl353.mono S676
              have h641 := h641.mono S676
              have h645 := S676 _ _ h645
              have hl646 := hl646.mono S676
              have r651 := r651.mono S676
              have h655 := S676 _ _ h655
              have hl656 := hl656.mono S676
              have r661 := r661.mono S676
              have h665 := S676 _ _ h665
              have hl666 := hl666.mono S676
              have r671 := r671.mono S676
              have h679 := h679.mono S676
              have h678 : R (a := (T4 (List Sm) (List Sm) (List Sm) Sm)) F674 (.ref p672) (T4.mk y647 y657 y667 (Sm.two (T3.mk ("most" : Str) (Sm.num (("number" : Str), (1 : Int)).1 (("number" : Str), (1 : Int)).2) (Sm.two (T3.mk ("plus" : Str) y301 (Sm.nam ("own" : Str))).a (T3.mk ("plus" : Str) y301 (Sm.nam ("own" : Str))).b (T3.mk ("plus" : Str) y301 (Sm.nam ("own" : Str))).c)).a (T3.mk ("most" : Str) (Sm.num (("number" : Str), (1 : Int)).1 (("number" : Str), (1 : Int)).2) (Sm.two (T3.mk ("plus" : Str) y301 (Sm.nam ("own" : Str))).a (T3.mk ("plus" : Str) y301 (Sm.nam ("own" : Str))).b (T3.mk ("plus" : Str) y301 (Sm.nam ("own" : Str))).c)).b (T3.mk ("most" : Str) (Sm.num (("number" : Str), (1 : Int)).1 (("number" : Str), (1 : Int)).2) (Sm.two (T3.mk ("plus" : Str) y301 (Sm.nam ("own" : Str))).a (T3.mk ("plus" : Str) y301 (Sm.nam ("own" : Str))).b (T3.mk ("plus" : Str) y301 (Sm.nam ("own" : Str))).c)).c)) := R.t4 h677 r651 r661 r671 h679
              exact hk _ _ w351 O675.g (O675.at 0 rfl) hl353 _ h678
            · have hk := wp_el hk q637
              obtain ⟨y680, e681, hk⟩ := wp_opt hk
              obtain ⟨j682, c683, e684, hj685, hl686, hx687⟩ := LLR.atI hl62 e681
              refine ⟨_, rfl, _, rfl, _, rfl, _, _, _, _, rfl, rfl, (SqL.of (Ow.llTop (S := [(a_deck, .lst w351)]) (p := p26) (ps := wa59) O354)), e684, _, rfl, _, rfl, _, _, _, _, _, rfl, (O354.pre1 0 rfl), hl353, wp_call hk (fun r688 er689 hk F690 H691 w693 g692 h694 hl695 => ?_) (fun n hn C H1 hC kp => hn C H1 hC (O354.kp1 kp 0 rfl))⟩
              have O696 := O354.call1 g692 0 rfl h694
              have S_ := g692.f
              have f_rule := f_rule.mono S_
              have h4 := S_ _ _ h4
              have r9 := r9.mono S_
              have r10 := r10.mono S_
              have r11 := r11.mono S_
              have r12 := r12.mono S_
              have h18 := S_ _ _ h18
              have hl19 := hl19.mono S_
              have hl62 := hl62.mono S_
              have hl73 := hl73.mono S_
              have h81 := h81.mono S_
              have h95 := S_ _ _ h95
              have hl96 := hl96.mono S_
              have h126 := h126.mono S_
              have h133 := h133.mono S_
              have h140 := h140.mono S_
              have h147 := h147.mono S_
              have h155 := h155.mono S_
              have h162 := h162.mono S_
              have h169 := h169.mono S_
              have h176 := h176.mono S_
              have h184 := h184.mono S_
              have h188 := h188.mono S_
              have h195 := h195.mono S_
              have h202 := h202.mono S_
              have h209 := h209.mono S_
              have h216 := h216.mono S_
              have h224 := h224.mono S_
              have h231 := h231.mono S_
              have h238 := h238.mono S_
              have h245 := h245.mono S_
              have h253 := h253.mono S_
              have h258 := S_ _ _ h258
              have hl259 := hl259.mono S_
              have h263 := S_ _ _ h263
              have hl264 := hl264.mono S_
              have h272 := h272.mono S_
              have h276 := h276.mono S_
              have h280 := S_ _ _ h280
              have hl281 := hl281.mono S_
              have r286 := r286.mono S_
              have h299 := S_ _ _ h299
              have hl300 := hl300.mono S_
              have r305 := r305.mono S_
              have h322 := h322.mono S_
              have h329 := h329.mono S_
              have h336 := h336.mono S_
              have h344 := h344.mono S_
              have h345 := h345.mono S_
              have h343 := h343.mono S_
              have hl686 := hl686.mono S_
              obtain ⟨j697, e698, hk⟩ := wp_setI hk
              obtain ⟨j703, e704, hk⟩ := wp_setI hk
              cases (hx687.symm.trans e704)
              refine ⟨_, _, _, _, rfl, rfl, (Ow.llAt (S := [(a_deck, .lst w693)]) (p := p26) (ps := wa59) O696 hj685), (by rw [hl686.len]; exact e698), ?_⟩
              have O700 := Ow.llSet (S := [(a_deck, .lst w693)]) (p := p26) (ps := wa59) O696 hj685 (c683.2.set j697 (V.ref p337))
              have hl701 := LLR.set hl62 (RL.set j697 hl686 (R.of_two h343)) c683.1 j682
              have zs702 := zs_set zs65 hj685 (c683.2.set j697 (V.ref p337))
              obtain ⟨F706, O707, S708, h709⟩ := Ow.llFrz (S := [(a_deck, .lst w693)]) (p := p26) (ps := (wa59.set j682 (c683.1, c683.2.set j697 (V.ref p337)))) O700 z54 zs702 hl701
              have f_rule := f_rule.mono S708
              have h4 := S708 _ _ h4
              have r9 := r9.mono S708
              have r10 := r10.mono S708
              have r11 := r11.mono S708
              have r12 := r12.mono S708
              have h18 := S708 _ _ h18
              have hl19 := hl19.mono S708
              have hl73 := hl73.mono S708
              have h81 := h81.mono S708
              have h95 := S708 _ _ h95
              have hl96 := hl96.mono S708
              have h126 := h126.mono S708
              have h133 := h133.mono S708
              have h140 := h140.mono S708
              have h147 := h147.mono S708
              have h155 := h155.mono S708
              have h162 := h162.mono S708
              have h169 := h169.mono S708
              have h176 := h176.mono S708
              have h184 := h184.mono S708
              have h188 := h188.mono S708
              have h195 := h195.mono S708
              have h202 := h202.mono S708
              have h209 := h209.mono S708
              have h216 := h216.mono S708
              have h224 := h224.mono S708
              have h231 := h231.mono S708
              have h238 := h238.mono S708
              have h245 := h245.mono S708
              have h253 := h253.mono S708
              have h258 := S708 _ _ h258
              have hl259 := hl259.mono S708
              have h263 := S708 _ _ h263
              have hl264 := hl264.mono S708
              have h272 := h272.mono S708
              have h276 := h276.mono S708
              have h280 := S708 _ _ h280
              have hl281 := hl281.mono S708
              have r286 := r286.mono S708
              have h299 := S708 _ _ h299
              have hl300 := hl300.mono S708
              have r305 := r305.mono S708
              have h322 := h322.mono S708
              have h329 := h329.mono S708
              have h336 := h336.mono S708
              have h344 := h344.mono S708
              have h345 := h345.mono S708
              have h343 := h343.mono S708
              have hl695 := hl695.mono S708
              obtain ⟨p710, w711, e712, h713, hl714⟩ := R.lst_ h709
              cases e712
              obtain ⟨y715, e716, hk⟩ := wp_opt hk
              obtain ⟨w717, e718, r719⟩ := hl714.atI e716
              obtain ⟨p720, w721, e722, h723, hl724⟩ := R.lst_ h709
              cases e722
              obtain ⟨y725, e726, hk⟩ := wp_opt hk
              obtain ⟨w727, e728, r729⟩ := hl724.atI e726
              obtain ⟨p730, w731, e732, h733, hl734⟩ := R.lst_ h709
              cases e732
              obtain ⟨y735, e736, hk⟩ := wp_opt hk
              obtain ⟨w737, e738, r739⟩ := hl734.atI e736
              refine ⟨_, rfl, _, _, _, _, rfl, rfl, (SqLF O707.s h713), e718, _, rfl, _, _, _, _, rfl, rfl, (SqLF O707.s h723), e728, _, rfl, _, _, _, _, rfl, rfl, (SqLF O707.s h733), e738, _, rfl, _, _, _, _, rfl, rfl, (SqTF O707.s h4), rfl, (by show 4 ≤ sizeLine; decide), fun p740 hp741 => ?_⟩
              obtain ⟨F742, O743, S744, h745⟩ := O707.putE hp741 (.tup [w717, w727, w737, v8])
              have f_rule := f_rule.mono S744
              have h4 := S744 _ _ h4
              have r9 := r9.mono S744
              have r10 := r10.mono S744
              have r11 := r11.mono S744
              have r12 := r12.mono S744
              have h18 := S744 _ _ h18
              have hl19 := hl19.mono S744
              have hl73 := hl73.mono S744
              have h81 := h81.mono S744
              have h95 := S744 _ _ h95
              have hl96 := hl96.mono S744
              have h126 := h126.mono S744
              have h133 := h133.mono S744
              have h140 := h140.mono S744
              have h147 := h147.mono S744
              have h155 := h155.mono S744
              have h162 := h162.mono S744
              have h169 := h169.mono S744
              have h176 := h176.mono S744
              have h184 := h184.mono S744
              have h188 := h188.mono S744
              have h195 := h195.mono S744
              have h202 := h202.mono S744
              have h209 := h209.mono S744
              have h216 := h216.mono S744
              have h224 := h224.mono S744
              have h231 := h231.mono S744
              have h238 := h238.mono S744
              have h245 := h245.mono S744
              have h253 := h253.mono S744
              have h258 := S744 _ _ h258
              have hl259 := hl259.mono S744
              have h263 := S744 _ _ h263
              have hl264 := hl264.mono S744
              have h272 := h272.mono S744
              have h276 := h276.mono S744
              have h280 := S744 _ _ h280
              have hl281 := hl281.mono S744
              have r286 := r286.mono S744
              have h299 := S744 _ _ h299
              have hl300 := hl300.mono S744
              have r305 := r305.mono S744
              have h322 := h322.mono S744
              have h329 := h329.mono S744
              have h336 := h336.mono S744
              have h344 := h344.mono S744
              have h345 := h345.mono S744
              have h343 := h343.mono S744
              have hl695 := hl695.mono S744
              have h709 := h709.mono S744
              have h713 := S744 _ _ h713
              have hl714 := hl714.mono S744
              have r719 := r719.mono S744
              have h723 := S744 _ _ h723
              have hl724 := hl724.mono S744
              have r729 := r729.mono S744
              have h733 := S744 _ _ h733
              have hl734 := hl734.mono S744
              have r739 := r739.mono S744
              have h746 : R (a := (T4 (List Sm) (List Sm) (List Sm) Sm)) F742 (.ref p740) (T4.mk y715 y725 y735 x_rule.d) := R.t4 h745 r719 r729 r739 r12
              exact hk _ _ w693 O743.g (O743.at 0 rfl) hl695 _ h746
    · have hk := wp_el hk q315
      refine ⟨_, rfl, _, _, _, _, _, rfl, (O314.pre1 0 rfl), hl313, wp_call hk (fun r747 er748 hk F749 H750 w752 g751 h753 hl754 => ?_) (fun n hn C H1 hC kp => hn C H1 hC (O314.kp1 kp 0 rfl))⟩
      have O755 := O314.call1 g751 0 rfl h753
      have S_ := g751.f
      have f_rule := f_rule.mono S_
      have h4 := S_ _ _ h4
      have r9 := r9.mono S_
      have r10 := r10.mono S_
      have r11 := r11.mono S_
      have r12 := r12.mono S_
      have h18 := S_ _ _ h18
      have hl19 := hl19.mono S_
      have hl62 := hl62.mono S_
      have hl73 := hl73.mono S_
      have h81 := h81.mono S_
      have h95 := S_ _ _ h95
      have hl96 := hl96.mono S_
      have h126 := h126.mono S_
      have h133 := h133.mono S_
      have h140 := h140.mono S_
      have h147 := h147.mono S_
      have h155 := h155.mono S_
      have h162 := h162.mono S_
      have h169 := h169.mono S_
      have h176 := h176.mono S_
      have h184 := h184.mono S_
      have h188 := h188.mono S_
      have h195 := h195.mono S_
      have h202 := h202.mono S_
      have h209 := h209.mono S_
      have h216 := h216.mono S_
      have h224 := h224.mono S_
      have h231 := h231.mono S_
      have h238 := h238.mono S_
      have h245 := h245.mono S_
      have h253 := h253.mono S_
      have h258 := S_ _ _ h258
      have hl259 := hl259.mono S_
      have h263 := S_ _ _ h263
      have hl264 := hl264.mono S_
      have h272 := h272.mono S_
      have h276 := h276.mono S_
      have h280 := S_ _ _ h280
      have hl281 := hl281.mono S_
      have r286 := r286.mono S_
      have h299 := S_ _ _ h299
      have hl300 := hl300.mono S_
      have r305 := r305.mono S_
      refine ⟨_, rfl, _, _, R.int, R.int, _, rfl, ?_⟩
      refine iteD (fun q756 => ?_) (fun q756 => ?_)
      · have hk := wp_if hk q756
        refine ⟨_, rfl, _, rfl, _, _, _, _, _, rfl, (O755.pre1 0 rfl), hl754, wp_call hk (fun r757 er758 hk F759 H760 w762 g761 h763 hl764 => ?_) (fun n hn C H1 hC kp => hn C H1 hC (O755.kp1 kp 0 rfl))⟩
        have O765 := O755.call1 g761 0 rfl h763
        have S_ := g761.f
        have f_rule := f_rule.mono S_
        have h4 := S_ _ _ h4
        have r9 := r9.mono S_
        have r10 := r10.mono S_
        have r11 := r11.mono S_
        have r12 := r12.mono S_
        have h18 := S_ _ _ h18
        have hl19 := hl19.mono S_
        have hl62 := hl62.mono S_
        have hl73 := hl73.mono S_
        have h81 := h81.mono S_
        have h95 := S_ _ _ h95
        have hl96 := hl96.mono S_
        have h126 := h126.mono S_
        have h133 := h133.mono S_
        have h140 := h140.mono S_
        have h147 := h147.mono S_
        have h155 := h155.mono S_
        have h162 := h162.mono S_
        have h169 := h169.mono S_
        have h176 := h176.mono S_
        have h184 := h184.mono S_
        have h188 := h188.mono S_
        have h195 := h195.mono S_
        have h202 := h202.mono S_
        have h209 := h209.mono S_
        have h216 := h216.mono S_
        have h224 := h224.mono S_
        have h231 := h231.mono S_
        have h238 := h238.mono S_
        have h245 := h245.mono S_
        have h253 := h253.mono S_
        have h258 := S_ _ _ h258
        have hl259 := hl259.mono S_
        have h263 := S_ _ _ h263
        have hl264 := hl264.mono S_
        have h272 := h272.mono S_
        have h276 := h276.mono S_
        have h280 := S_ _ _ h280
        have hl281 := hl281.mono S_
        have r286 := r286.mono S_
        have h299 := S_ _ _ h299
        have hl300 := hl300.mono S_
        have r305 := r305.mono S_
        obtain ⟨y766, e767, hk⟩ := wp_opt hk
        obtain ⟨j768, c769, e770, hj771, hl772, hx773⟩ := LLR.atI hl62 e767
        refine ⟨_, _, _, _, rfl, rfl, (SqL.of (Ow.llTop (S := [(a_deck, .lst w762)]) (p := p26) (ps := wa59) O765)), e770, (.inl ⟨rfl, _, SqL.of (Ow.llAt (S := [(a_deck, .lst w762)]) (p := p26) (ps := wa59) O765 hj771)⟩), (by show 2 ≤ sizeLine; decide), fun p774 hp775 => ?_⟩
        obtain ⟨F776, O777, S778, h779⟩ := O765.putE hp775 (.tup [V.str ("number" : Str), V.int (0 : Int)])
        have f_rule := f_rule.mono S778
        have h4 := S778 _ _ h4
        have r9 := r9.mono S778
        have r10 := r10.mono S778
        have r11 := r11.mono S778
        have r12 := r12.mono S778
        have h18 := S778 _ _ h18
        have hl19 := hl19.mono S778
        have hl62 := hl62.mono S778
        have hl73 := hl73.mono S778
        have h81 := h81.mono S778
        have h95 := S778 _ _ h95
        have hl96 := hl96.mono S778
        have h126 := h126.mono S778
        have h133 := h133.mono S778
        have h140 := h140.mono S778
        have h147 := h147.mono S778
        have h155 := h155.mono S778
        have h162 := h162.mono S778
        have h169 := h169.mono S778
        have h176 := h176.mono S778
        have h184 := h184.mono S778
        have h188 := h188.mono S778
        have h195 := h195.mono S778
        have h202 := h202.mono S778
        have h209 := h209.mono S778
        have h216 := h216.mono S778
        have h224 := h224.mono S778
        have h231 := h231.mono S778
        have h238 := h238.mono S778
        have h245 := h245.mono S778
        have h253 := h253.mono S778
        have h258 := S778 _ _ h258
        have hl259 := hl259.mono S778
        have h263 := S778 _ _ h263
        have hl264 := hl264.mono S778
        have h272 := h272.mono S778
        have h276 := h276.mono S778
        have h280 := S778 _ _ h280
        have hl281 := hl281.mono S778
        have r286 := r286.mono S778
        have h299 := S778 _ _ h299
        have hl300 := hl300.mono S778
        have r305 := r305.mono S778
        have hl764 := hl764.mono S778
        have hl772 := hl772.mono S778
        have h780 : R (a := (Str × Int)) F776 (.ref p774) (("number" : Str), (0 : Int)) := R.t2 h779 R.str R.int
        obtain ⟨c781, hk⟩ := wp_appL hk
        obtain ⟨j785, e786, hk⟩ := wp_setI hk
        cases (hx773.symm.trans e786)
        refine ⟨_, _, _, rfl, rfl, (Ow.llAt (S := [(a_deck, .lst w762)]) (p := p26) (ps := wa59) O777 hj771), (by rw [hl772.len]; exact c781), ?_⟩
        have O782 := Ow.llSet (S := [(a_deck, .lst w762)]) (p := p26) (ps := wa59) O777 hj771 (c769.2 ++ [V.ref p774])
        have hl783 := LLR.set hl62 (RL.snoc hl772 (R.of_num h780)) c769.1 j768
        have zs784 := zs_set zs65 hj771 (c769.2 ++ [V.ref p774])
        obtain ⟨F788, O789, S790, h791⟩ := Ow.llFrz (S := [(a_deck, .lst w762)]) (p := p26) (ps := (wa59.set j768 (c769.1, c769.2 ++ [V.ref p774]))) O782 z54 zs784 hl783
        have f_rule := f_rule.mono S790
        have h4 := S790 _ _ h4
        have r9 := r9.mono S790
        have r10 := r10.mono S790
        have r11 := r11.mono S790
        have r12 := r12.mono S790
        have h18 := S790 _ _ h18
        have hl19 := hl19.mono S790
        have hl73 := hl73.mono S790
        have h81 := h81.mono S790
        have h95 := S790 _ _ h95
        have hl96 := hl96.mono S790
        have h126 := h126.mono S790
        have h133 := h133.mono S790
        have h140 := h140.mono S790
        have h147 := h147.mono S790
        have h155 := h155.mono S790
        have h162 := h162.mono S790
        have h169 := h169.mono S790
        have h176 := h176.mono S790
        have h184 := h184.mono S790
        have h188 := h188.mono S790
        have h195 := h195.mono S790
        have h202 := h202.mono S790
        have h209 := h209.mono S790
        have h216 := h216.mono S790
        have h224 := h224.mono S790
        have h231 := h231.mono S790
        have h238 := h238.mono S790
        have h245 := h245.mono S790
        have h253 := h253.mono S790
        have h258 := S790 _ _ h258
        have hl259 := hl259.mono S790
        have h263 := S790 _ _ h263
        have hl264 := hl264.mono S790
        have h272 := h272.mono S790
        have h276 := h276.mono S790
        have h280 := S790 _ _ h280
        have hl281 := hl281.mono S790
        have r286 := r286.mono S790
        have h299 := S790 _ _ h299
        have hl300 := hl300.mono S790
        have r305 := r305.mono S790
        have hl764 := hl764.mono S790
        have h780 := h780.mono S790
        obtain ⟨p792, w793, e794, h795, hl796⟩ := R.lst_ h791
        cases e794
        obtain ⟨y797, e798, hk⟩ := wp_opt hk
        obtain ⟨w799, e800, r801⟩ := hl796.atI e798
        obtain ⟨p802, w803, e804, h805, hl806⟩ := R.lst_ h791
        cases e804
        obtain ⟨y807, e808, hk⟩ := wp_opt hk
        obtain ⟨w809, e810, r811⟩ := hl806.atI e808
        obtain ⟨p812, w813, e814, h815, hl816⟩ := R.lst_ h791
        cases e814
        obtain ⟨y817, e818, hk⟩ := wp_opt hk
        obtain ⟨w819, e820, r821⟩ := hl816.atI e818
        refine ⟨_, rfl, _, _, _, _, rfl, rfl, (SqLF O789.s h795), e800, _, rfl, _, _, _, _, rfl, rfl, (SqLF O789.s h805), e810, _, rfl, _, _, _, _, rfl, rfl, (SqLF O789.s h815), e820, _, rfl, _, _, _, _, rfl, rfl, (SqTF O789.s h4), rfl, (by show 4 ≤ sizeLine; decide), fun p822 hp823 => ?_⟩
        obtain ⟨F824, O825, S826, h827⟩ := O789.putE hp823 (.tup [w799, w809, w819, v8])
        have f_rule := f_rule.mono S826
        have h4 := S826 _ _ h4
        have r9 := r9.mono S826
        have r10 := r10.mono S826
        have r11 := r11.mono S826
        have r12 := r12.mono S826
        have h18 := S826 _ _ h18
        have hl19 := hl19.mono S826
        have hl73 := hl73.mono S826
        have h81 := h81.mono S826
        have h95 := S826 _ _ h95
        have hl96 := hl96.mono S826
        have h126 := h126.mono S826
        have h133 := h133.mono S826
        have h140 := h140.mono S826
        have h147 := h147.mono S826
        have h155 := h155.mono S826
        have h162 := h162.mono S826
        have h169 := h169.mono S826
        have h176 := h176.mono S826
        have h184 := h184.mono S826
        have h188 := h188.mono S826
        have h195 := h195.mono S826
        have h202 := h202.mono S826
        have h209 := h209.mono S826
        have h216 := h216.mono S826
        have h224 := h224.mono S826
        have h231 := h231.mono S826
        have h238 := h238.mono S826
        have h245 := h245.mono S826
        have h253 := h253.mono S826
        have h258 := S826 _ _ h258
        have hl259 := hl259.mono S826
        have h263 := S826 _ _ h263
        have hl264 := hl264.mono S826
        have h272 := h272.mono S826
        have h276 := h276.mono S826
        have h280 := S826 _ _ h280
        have hl281 := hl281.mono S826
        have r286 := r286.mono S826
        have h299 := S826 _ _ h299
        have hl300 := hl300.mono S826
        have r305 := r305.mono S826
        have hl764 := hl764.mono S826
        have h780 := h780.mono S826
        have h791 := h791.mono S826
        have h795 := S826 _ _ h795
        have hl796 := hl796.mono S826
        have r801 := r801.mono S826
        have h805 := S826 _ _ h805
        have hl806 := hl806.mono S826
        have r811 := r811.mono S826
        have h815 := S826 _ _ h815
        have hl816 := hl816.mono S826
        have r821 := r821.mono S826
        have h828 : R (a := (T4 (List Sm) (List Sm) (List Sm) Sm)) F824 (.ref p822) (T4.mk y797 y807 y817 x_rule.d) := R.t4 h827 r801 r811 r821 r12
        exact hk _ _ w762 O825.g (O825.at 0 rfl) hl764 _ h828
      · have hk := wp_el hk q756
        refine ⟨_, rfl, _, _, R.int, R.int, _, rfl, ?_⟩
        refine iteD (fun q829 => ?_) (fun q829 => ?_)
        · have hk := wp_if hk q829
          obtain ⟨F830, O831, S832, h833⟩ := Ow.llFrz (S := [(a_deck, .lst w752)]) (p := p26) (ps := wa59) O755 z54 zs65 hl62
          have f_rule := f_rule.mono S832
          have h4 := S832 _ _ h4
          have r9 := r9.mono S832
          have r10 := r10.mono S832
          have r11 := r11.mono S832
          have r12 := r12.mono S832
          have h18 := S832 _ _ h18
          have hl19 := hl19.mono S832
          have hl73 := hl73.mono S832
          have h81 := h81.mono S832
          have h95 := S832 _ _ h95
          have hl96 := hl96.mono S832
          have h126 := h126.mono S832
          have h133 := h133.mono S832
          have h140 := h140.mono S832
          have h147 := h147.mono S832
          have h155 := h155.mono S832
          have h162 := h162.mono S832
          have h169 := h169.mono S832
          have h176 := h176.mono S832
          have h184 := h184.mono S832
          have h188 := h188.mono S832
          have h195 := h195.mono S832
          have h202 := h202.mono S832
          have h209 := h209.mono S832
          have h216 := h216.mono S832
          have h224 := h224.mono S832
          have h231 := h231.mono S832
          have h238 := h238.mono S832
          have h245 := h245.mono S832
          have h253 := h253.mono S832
          have h258 := S832 _ _ h258
          have hl259 := hl259.mono S832
          have h263 := S832 _ _ h263
          have hl264 := hl264.mono S832
          have h272 := h272.mono S832
          have h276 := h276.mono S832
          have h280 := S832 _ _ h280
          have hl281 := hl281.mono S832
          have r286 := r286.mono S832
          have h299 := S832 _ _ h299
          have hl300 := hl300.mono S832
          have r305 := r305.mono S832
          have hl754 := hl754.mono S832
          obtain ⟨p834, w835, e836, h837, hl838⟩ := R.lst_ h833
          cases e836
          obtain ⟨c844, L840, hL841, hLs842, hLd843⟩ := compS_L hk
          refine ⟨_, rfl, _, rfl, ⟨_, (SqLF O831.s h837)⟩, fun p845 hp846 => ?_⟩
          have z910 := O831.was hp846
          refine lc_list (K := K) (xs := w835) (fun i H => ∃ (F_ : Hp) (st : Unit) (acc : List (List Sm)) (wa : List V), Same F830 F_ ∧ Ow _ F_ [(p845, .lst wa), (a_deck, .lst w752)] H ∧ RL F_ wa acc ∧ wa.length ≤ i ∧ L840 (List.drop i acc58) acc st) ⟨F830, (), [], [], Same.refl _, O831.new hp846, RL.nil, Nat.zero_le _, hL841⟩ (fun i_ H_ _ hp_ => ?_) ?_ ?_
          · obtain ⟨_, _, _, _, hS_, hO_, _⟩ := hp_
            exact SqLF hO_.s (hS_ _ _ h837)
          · rintro i847 x848 H849 hi850 ⟨F855, st856, acc852, wa853, S857, O859, hl858, la854, hL841⟩
            have f_rule := f_rule.mono S857
            have h4 := S857 _ _ h4
            have r9 := r9.mono S857
            have r10 := r10.mono S857
            have r11 := r11.mono S857
            have r12 := r12.mono S857
            have h18 := S857 _ _ h18
            have hl19 := hl19.mono S857
            have hl73 := hl73.mono S857
            have h81 := h81.mono S857
            have h95 := S857 _ _ h95
            have hl96 := hl96.mono S857
            have h126 := h126.mono S857
            have h133 := h133.mono S857
            have h140 := h140.mono S857
            have h147 := h147.mono S857
            have h155 := h155.mono S857
            have h162 := h162.mono S857
            have h169 := h169.mono S857
            have h176 := h176.mono S857
            have h184 := h184.mono S857
            have h188 := h188.mono S857
            have h195 := h195.mono S857
            have h202 := h202.mono S857
            have h209 := h209.mono S857
            have h216 := h216.mono S857
            have h224 := h224.mono S857
            have h231 := h231.mono S857
            have h238 := h238.mono S857
            have h245 := h245.mono S857
            have h253 := h253.mono S857
            have h258 := S857 _ _ h258
            have hl259 := hl259.mono S857
            have h263 := S857 _ _ h263
            have hl264 := hl264.mono S857
            have h272 := h272.mono S857
            have h276 := h276.mono S857
            have h280 := S857 _ _ h280
            have hl281 := hl281.mono S857
            have r286 := r286.mono S857
            have h299 := S857 _ _ h299
            have hl300 := hl300.mono S857
            have r305 := r305.mono S857
            have hl754 := hl754.mono S857
            have h833 := h833.mono S857
            have h837 := S857 _ _ h837
            have hl838 := hl838.mono S857
            obtain ⟨y839, e860, r861⟩ := RL.got hl838 hi850
            rw [drop_at e860] at hL841
            have hk := hLs842 _ _ _ _ hL841
            refine ⟨rfl, ?_⟩
            refine ⟨_, rfl, (by show 2 ≤ sizeLine; decide), fun p862 hp863 => ?_⟩
            obtain ⟨F864, O865, S866, h867⟩ := O859.putE hp863 (.tup [V.str ("number" : Str), V.int (1 : Int)])
            have f_rule := f_rule.mono S866
            have h4 := S866 _ _ h4
            have r9 := r9.mono S866
            have r10 := r10.mono S866
            have r11 := r11.mono S866
            have r12 := r12.mono S866
            have h18 := S866 _ _ h18
            have hl19 := hl19.mono S866
            have hl73 := hl73.mono S866
            have h81 := h81.mono S866
            have h95 := S866 _ _ h95
            have hl96 := hl96.mono S866
            have h126 := h126.mono S866
            have h133 := h133.mono S866
            have h140 := h140.mono S866
            have h147 := h147.mono S866
            have h155 := h155.mono S866
            have h162 := h162.mono S866
            have h169 := h169.mono S866
            have h176 := h176.mono S866
            have h184 := h184.mono S866
            have h188 := h188.mono S866
            have h195 := h195.mono S866
            have h202 := h202.mono S866
            have h209 := h209.mono S866
            have h216 := h216.mono S866
            have h224 := h224.mono S866
            have h231 := h231.mono S866
            have h238 := h238.mono S866
            have h245 := h245.mono S866
            have h253 := h253.mono S866
            have h258 := S866 _ _ h258
            have hl259 := hl259.mono S866
            have h263 := S866 _ _ h263
            have hl264 := hl264.mono S866
            have h272 := h272.mono S866
            have h276 := h276.mono S866
            have h280 := S866 _ _ h280
            have hl281 := hl281.mono S866
            have r286 := r286.mono S866
            have h299 := S866 _ _ h299
            have hl300 := hl300.mono S866
            have r305 := r305.mono S866
            have hl754 := hl754.mono S866
            have h833 := h833.mono S866
            have h837 := S866 _ _ h837
            have hl838 := hl838.mono S866
            have S857 := S857.trans S866
            have hl858 := hl858.mono S866
            have r861 := r861.mono S866
            have h868 : R (a := (Str × Int)) F864 (.ref p862) (("number" : Str), (1 : Int)) := R.t2 h867 R.str R.int
            refine ⟨(by show 1 ≤ sizeLine; decide), fun p869 hp870 => ?_⟩
            have hl876 : RL (a := Sm) F864 ([V.ref p862]) ([(Sm.num (("number" : Str), (1 : Int)).1 (("number" : Str), (1 : Int)).2)]) := RL.cons (R.of_num h868) RL.nil
            obtain ⟨F871, O872, S873, h874⟩ := O865.putE hp870 (.lst ([V.ref p862]))
            have f_rule := f_rule.mono S873
            have h4 := S873 _ _ h4
            have r9 := r9.mono S873
            have r10 := r10.mono S873
            have r11 := r11.mono S873
            have r12 := r12.mono S873
            have h18 := S873 _ _ h18
            have hl19 := hl19.mono S873
            have hl73 := hl73.mono S873
            have h81 := h81.mono S873
            have h95 := S873 _ _ h95
            have hl96 := hl96.mono S873
            have h126 := h126.mono S873
            have h133 := h133.mono S873
            have h140 := h140.mono S873
            have h147 := h147.mono S873
            have h155 := h155.mono S873
            have h162 := h162.mono S873
            have h169 := h169.mono S873
            have h176 := h176.mono S873
            have h184 := h184.mono S873
            have h188 := h188.mono S873
            have h195 := h195.mono S873
            have h202 := h202.mono S873
            have h209 := h209.mono S873
            have h216 := h216.mono S873
            have h224 := h224.mono S873
            have h231 := h231.mono S873
            have h238 := h238.mono S873
            have h245 := h245.mono S873
            have h253 := h253.mono S873
            have h258 := S873 _ _ h258
            have hl259 := hl259.mono S873
            have h263 := S873 _ _ h263
            have hl264 := hl264.mono S873
            have h272 := h272.mono S873
            have h276 := h276.mono S873
            have h280 := S873 _ _ h280
            have hl281 := hl281.mono S873
            have r286 := r286.mono S873
            have h299 := S873 _ _ h299
            have hl300 := hl300.mono S873
            have r305 := r305.mono S873
            have hl754 := hl754.mono S873
            have h833 := h833.mono S873
            have h837 := S873 _ _ h837
            have hl838 := hl838.mono S873
            have S857 := S857.trans S873
            have hl858 := hl858.mono S873
            have r861 := r861.mono S873
            have h868 := h868.mono S873
            have hl876 := hl876.mono S873
            have h875 := R.lst (a := Sm) h874 hl876
            obtain ⟨p877, w878, e879, h880, hl881⟩ := R.lst_ h875
            cases e879
            obtain ⟨c882, hk⟩ := wp_chk hk
            refine ⟨_, rfl, _, _, rfl, rfl, _, _, _, rfl, rfl, (O872.s _ _ h880), c882.1, c882.2.1, (by rw [hl881.len]; exact le_line c882.2.2), fun p883 hp884 => ?_⟩
            have hl890 : RL (a := Sm) F871 (repL ((4 : Int) - (y67.length : Int)) w878) (repL ((4 : Int) - (y67.length : Int)) ([(Sm.num (("number" : Str), (1 : Int)).1 (("number" : Str), (1 : Int)).2)])) := RL.rep hl881 ((4 : Int) - (y67.length : Int))
            obtain ⟨F885, O886, S887, h888⟩ := O872.putE hp884 (.lst (repL ((4 : Int) - (y67.length : Int)) w878))
            have f_rule := f_rule.mono S887
            have h4 := S887 _ _ h4
            have r9 := r9.mono S887
            have r10 := r10.mono S887
            have r11 := r11.mono S887
            have r12 := r12.mono S887
            have h18 := S887 _ _ h18
            have hl19 := hl19.mono S887
            have hl73 := hl73.mono S887
            have h81 := h81.mono S887
            have h95 := S887 _ _ h95
            have hl96 := hl96.mono S887
            have h126 := h126.mono S887
            have h133 := h133.mono S887
            have h140 := h140.mono S887
            have h147 := h147.mono S887
            have h155 := h155.mono S887
            have h162 := h162.mono S887
            have h169 := h169.mono S887
            have h176 := h176.mono S887
            have h184 := h184.mono S887
            have h188 := h188.mono S887
            have h195 := h195.mono S887
            have h202 := h202.mono S887
            have h209 := h209.mono S887
            have h216 := h216.mono S887
            have h224 := h224.mono S887
            have h231 := h231.mono S887
            have h238 := h238.mono S887
            have h245 := h245.mono S887
            have h253 := h253.mono S887
            have h258 := S887 _ _ h258
            have hl259 := hl259.mono S887
            have h263 := S887 _ _ h263
            have hl264 := hl264.mono S887
            have h272 := h272.mono S887
            have h276 := h276.mono S887
            have h280 := S887 _ _ h280
            have hl281 := hl281.mono S887
            have r286 := r286.mono S887
            have h299 := S887 _ _ h299
            have hl300 := hl300.mono S887
            have r305 := r305.mono S887
            have hl754 := hl754.mono S887
            have h833 := h833.mono S887
            have h837 := S887 _ _ h837
            have hl838 := hl838.mono S887
            have S857 := S857.trans S887
            have hl858 := hl858.mono S887
            have r861 := r861.mono S887
            have h868 := h868.mono S887
            have h875 := h875.mono S887
            have h880 := S887 _ _ h880
            have hl881 := hl881.mono S887
            have hl890 := hl890.mono S887
            have h889 := R.lst (a := Sm) h888 hl890
            obtain ⟨p891, w892, e893, h894, hl895⟩ := R.lst_ r861
            cases e893
            obtain ⟨p896, w897, e898, h899, hl900⟩ := R.lst_ h889
            cases e898
            obtain ⟨c901, hk⟩ := wp_chk hk
            refine ⟨_, _, _, _, rfl, rfl, (O886.s _ _ h894), (O886.s _ _ h899), (by rw [hl895.len, hl900.len]; exact le_line c901), fun p902 hp903 => ?_⟩
            have hl909 : RL (a := Sm) F885 (w892 ++ w897) (y839 ++ (repL ((4 : Int) - (y67.length : Int)) ([(Sm.num (("number" : Str), (1 : Int)).1 (("number" : Str), (1 : Int)).2)]))) := RL.app hl895 hl900
            obtain ⟨F904, O905, S906, h907⟩ := O886.putE hp903 (.lst (w892 ++ w897))
            have f_rule := f_rule.mono S906
            have h4 := S906 _ _ h4
            have r9 := r9.mono S906
            have r10 := r10.mono S906
            have r11 := r11.mono S906
            have r12 := r12.mono S906
            have h18 := S906 _ _ h18
            have hl19 := hl19.mono S906
            have hl73 := hl73.mono S906
            have h81 := h81.mono S906
            have h95 := S906 _ _ h95
            have hl96 := hl96.mono S906
            have h126 := h126.mono S906
            have h133 := h133.mono S906
            have h140 := h140.mono S906
            have h147 := h147.mono S906
            have h155 := h155.mono S906
            have h162 := h162.mono S906
            have h169 := h169.mono S906
            have h176 := h176.mono S906
            have h184 := h184.mono S906
            have h188 := h188.mono S906
            have h195 := h195.mono S906
            have h202 := h202.mono S906
            have h209 := h209.mono S906
            have h216 := h216.mono S906
            have h224 := h224.mono S906
            have h231 := h231.mono S906
            have h238 := h238.mono S906
            have h245 := h245.mono S906
            have h253 := h253.mono S906
            have h258 := S906 _ _ h258
            have hl259 := hl259.mono S906
            have h263 := S906 _ _ h263
            have hl264 := hl264.mono S906
            have h272 := h272.mono S906
            have h276 := h276.mono S906
            have h280 := S906 _ _ h280
            have hl281 := hl281.mono S906
            have r286 := r286.mono S906
            have h299 := S906 _ _ h299
            have hl300 := hl300.mono S906
            have r305 := r305.mono S906
            have hl754 := hl754.mono S906
            have h833 := h833.mono S906
            have h837 := S906 _ _ h837
            have hl838 := hl838.mono S906
            have S857 := S857.trans S906
            have hl858 := hl858.mono S906
            have r861 := r861.mono S906
            have h868 := h868.mono S906
            have h875 := h875.mono S906
            have h880 := S906 _ _ h880
            have hl881 := hl881.mono S906
            have h889 := h889.mono S906
            have h894 := S906 _ _ h894
            have hl895 := hl895.mono S906
            have h899 := S906 _ _ h899
            have hl900 := hl900.mono S906
            have hl909 := hl909.mono S906
            have h908 := R.lst (a := Sm) h907 hl909
            refine ⟨_, (O905.at 0 rfl), (comp_len la854 hi850 hl838.len c844), ?_⟩
            exact ⟨F904, (), acc852 ++ [(y839 ++ (repL ((4 : Int) - (y67.length : Int)) ([(Sm.num (("number" : Str), (1 : Int)).1 (("number" : Str), (1 : Int)).2)])))], wa853 ++ [V.ref p902], S857, O905.set 0 (.lst (wa853 ++ [V.ref p902])) rfl, RL.snoc hl858 h908, by rw [List.length_append]; exact Nat.succ_le_succ la854, hk⟩
          rintro H911 ⟨F912, st913, acc914, wa915, S916, O917, hl918, la919, hL920⟩
          rw [drop_end hl838.len] at hL920
          have hk := hLd843 _ _ hL920
          have f_rule := f_rule.mono S916
          have h4 := S916 _ _ h4
          have r9 := r9.mono S916
          have r10 := r10.mono S916
          have r11 := r11.mono S916
          have r12 := r12.mono S916
          have h18 := S916 _ _ h18
          have hl19 := hl19.mono S916
          have hl73 := hl73.mono S916
          have h81 := h81.mono S916
          have h95 := S916 _ _ h95
          have hl96 := hl96.mono S916
          have h126 := h126.mono S916
          have h133 := h133.mono S916
          have h140 := h140.mono S916
          have h147 := h147.mono S916
          have h155 := h155.mono S916
          have h162 := h162.mono S916
          have h169 := h169.mono S916
          have h176 := h176.mono S916
          have h184 := h184.mono S916
          have h188 := h188.mono S916
          have h195 := h195.mono S916
          have h202 := h202.mono S916
          have h209 := h209.mono S916
          have h216 := h216.mono S916
          have h224 := h224.mono S916
          have h231 := h231.mono S916
          have h238 := h238.mono S916
          have h245 := h245.mono S916
          have h253 := h253.mono S916
          have h258 := S916 _ _ h258
          have hl259 := hl259.mono S916
          have h263 := S916 _ _ h263
          have hl264 := hl264.mono S916
          have h272 := h272.mono S916
          have h276 := h276.mono S916
          have h280 := S916 _ _ h280
          have hl281 := hl281.mono S916
          have r286 := r286.mono S916
          have h299 := S916 _ _ h299
          have hl300 := hl300.mono S916
          have r305 := r305.mono S916
          have hl754 := hl754.mono S916
          have h833 := h833.mono S916
          have h837 := S916 _ _ h837
          have hl838 := hl838.mono S916
          obtain ⟨F922, O923, S924, h925⟩ := O917.frzE 0 rfl z910
          have f_rule := f_rule.mono S924
          have h4 := S924 _ _ h4
          have r9 := r9.mono S924
          have r10 := r10.mono S924
          have r11 := r11.mono S924
          have r12 := r12.mono S924
          have h18 := S924 _ _ h18
          have hl19 := hl19.mono S924
          have hl73 := hl73.mono S924
          have h81 := h81.mono S924
          have h95 := S924 _ _ h95
          have hl96 := hl96.mono S924
          have h126 := h126.mono S924
          have h133 := h133.mono S924
          have h140 := h140.mono S924
          have h147 := h147.mono S924
          have h155 := h155.mono S924
          have h162 := h162.mono S924
          have h169 := h169.mono S924
          have h176 := h176.mono S924
          have h184 := h184.mono S924
          have h188 := h188.mono S924
          have h195 := h195.mono S924
          have h202 := h202.mono S924
          have h209 := h209.mono S924
          have h216 := h216.mono S924
          have h224 := h224.mono S924
          have h231 := h231.mono S924
          have h238 := h238.mono S924
          have h245 := h245.mono S924
          have h253 := h253.mono S924
          have h258 := S924 _ _ h258
          have hl259 := hl259.mono S924
          have h263 := S924 _ _ h263
          have hl264 := hl264.mono S924
          have h272 := h272.mono S924
          have h276 := h276.mono S924
          have h280 := S924 _ _ h280
          have hl281 := hl281.mono S924
          have r286 := r286.mono S924
          have h299 := S924 _ _ h299
          have hl300 := hl300.mono S924
          have r305 := r305.mono S924
          have hl754 := hl754.mono S924
          have h833 := h833.mono S924
          have h837 := S924 _ _ h837
          have hl838 := hl838.mono S924
          have hl918 := hl918.mono S924
          have h926 := R.lst (a := (List Sm)) h925 hl918
          obtain ⟨p927, w928, e929, h930, hl931⟩ := R.lst_ h926
          cases e929
          obtain ⟨y932, e933, hk⟩ := wp_opt hk
          obtain ⟨w934, e935, r936⟩ := hl931.atI e933
          obtain ⟨p937, w938, e939, h940, hl941⟩ := R.lst_ h926
          cases e939
          obtain ⟨y942, e943, hk⟩ := wp_opt hk
          obtain ⟨w944, e945, r946⟩ := hl941.atI e943
          obtain ⟨p947, w948, e949, h950, hl951⟩ := R.lst_ h926
          cases e949
          obtain ⟨y952, e953, hk⟩ := wp_opt hk
          obtain ⟨w954, e955, r956⟩ := hl951.atI e953
          refine ⟨_, rfl, _, _, _, _, rfl, rfl, (SqLF O923.s h930), e935, _, rfl, _, _, _, _, rfl, rfl, (SqLF O923.s h940), e945, _, rfl, _, _, _, _, rfl, rfl, (SqLF O923.s h950), e955, _, rfl, _, _, _, _, rfl, rfl, (SqTF O923.s h4), rfl, (by show 4 ≤ sizeLine; decide), fun p957 hp958 => ?_⟩
          obtain ⟨F959, O960, S961, h962⟩ := O923.putE hp958 (.tup [w934, w944, w954, v8])
          have f_rule := f_rule.mono S961
          have h4 := S961 _ _ h4
          have r9 := r9.mono S961
          have r10 := r10.mono S961
          have r11 := r11.mono S961
          have r12 := r12.mono S961
          have h18 := S961 _ _ h18
          have hl19 := hl19.mono S961
          have hl73 := hl73.mono S961
          have h81 := h81.mono S961
          have h95 := S961 _ _ h95
          have hl96 := hl96.mono S961
          have h126 := h126.mono S961
          have h133 := h133.mono S961
          have h140 := h140.mono S961
          have h147 := h147.mono S961
          have h155 := h155.mono S961
          have h162 := h162.mono S961
          have h169 := h169.mono S961
          have h176 := h176.mono S961
          have h184 := h184.mono S961
          have h188 := h188.mono S961
          have h195 := h195.mono S961
          have h202 := h202.mono S961
          have h209 := h209.mono S961
          have h216 := h216.mono S961
          have h224 := h224.mono S961
          have h231 := h231.mono S961
          have h238 := h238.mono S961
          have h245 := h245.mono S961
          have h253 := h253.mono S961
          have h258 := S961 _ _ h258
          have hl259 := hl259.mono S961
          have h263 := S961 _ _ h263
          have hl264 := hl264.mono S961
          have h272 := h272.mono S961
          have h276 := h276.mono S961
          have h280 := S961 _ _ h280
          have hl281 := hl281.mono S961
          have r286 := r286.mono S961
          have h299 := S961 _ _ h299
          have hl300 := hl300.mono S961
          have r305 := r305.mono S961
          have hl754 := hl754.mono S961
          have h833 := h833.mono S961
          have h837 := S961 _ _ h837
          have hl838 := hl838.mono S961
          have h926 := h926.mono S961
          have h930 := S961 _ _ h930
          have hl931 := hl931.mono S961
          have r936 := r936.mono S961
          have h940 := S961 _ _ h940
          have hl941 := hl941.mono S961
          have r946 := r946.mono S961
          have h950 := S961 _ _ h950
          have hl951 := hl951.mono S961
          have r956 := r956.mono S961
          have h963 : R (a := (T4 (List Sm) (List Sm) (List Sm) Sm)) F959 (.ref p957) (T4.mk y932 y942 y952 x_rule.d) := R.t4 h962 r936 r946 r956 r12
          exact hk _ _ w752 O960.g (O960.at 0 rfl) hl754 _ h963
        · have hk := wp_el hk q829
          refine ⟨_, rfl, _, _, R.int, R.int, _, rfl, ?_⟩
          refine iteD (fun q964 => ?_) (fun q964 => ?_)
          · have hk := wp_if hk q964
            obtain ⟨F965, O966, S967, h968⟩ := Ow.llFrz (S := [(a_deck, .lst w752)]) (p := p26) (ps := wa59) O755 z54 zs65 hl62
            have f_rule := f_rule.mono S967
            have h4 := S967 _ _ h4
            have r9 := r9.mono S967
            have r10 := r10.mono S967
            have r11 := r11.mono S967
            have r12 := r12.mono S967
            have h18 := S967 _ _ h18
            have hl19 := hl19.mono S967
            have hl73 := hl73.mono S967
            have h81 := h81.mono S967
            have h95 := S967 _ _ h95
            have hl96 := hl96.mono S967
            have h126 := h126.mono S967
            have h133 := h133.mono S967
            have h140 := h140.mono S967
            have h147 := h147.mono S967
            have h155 := h155.mono S967
            have h162 := h162.mono S967
            have h169 := h169.mono S967
            have h176 := h176.mono S967
            have h184 := h184.mono S967
            have h188 := h188.mono S967
            have h195 := h195.mono S967
            have h202 := h202.mono S967
            have h209 := h209.mono S967
            have h216 := h216.mono S967
            have h224 := h224.mono S967
            have h231 := h231.mono S967
            have h238 := h238.mono S967
            have h245 := h245.mono S967
            have h253 := h253.mono S967
            have h258 := S967 _ _ h258
            have hl259 := hl259.mono S967
            have h263 := S967 _ _ h263
            have hl264 := hl264.mono S967
            have h272 := h272.mono S967
            have h276 := h276.mono S967
            have h280 := S967 _ _ h280
            have hl281 := hl281.mono S967
            have r286 := r286.mono S967
            have h299 := S967 _ _ h299
            have hl300 := hl300.mono S967
            have r305 := r305.mono S967
            have hl754 := hl754.mono S967
            refine ⟨(by show 0 ≤ sizeLine; decide), fun p969 hp970 => ?_⟩
            have hl976 : RL (a := Sm) F965 ([]) ([] : List Sm) := RL.nil
            obtain ⟨F971, O972, S973, h974⟩ := O966.putE hp970 (.lst ([]))
            have f_rule := f_rule.mono S973
            have h4 := S973 _ _ h4
            have r9 := r9.mono S973
            have r10 := r10.mono S973
            have r11 := r11.mono S973
            have r12 := r12.mono S973
            have h18 := S973 _ _ h18
            have hl19 := hl19.mono S973
            have hl73 := hl73.mono S973
            have h81 := h81.mono S973
            have h95 := S973 _ _ h95
            have hl96 := hl96.mono S973
            have h126 := h126.mono S973
            have h133 := h133.mono S973
            have h140 := h140.mono S973
            have h147 := h147.mono S973
            have h155 := h155.mono S973
            have h162 := h162.mono S973
            have h169 := h169.mono S973
            have h176 := h176.mono S973
            have h184 := h184.mono S973
            have h188 := h188.mono S973
            have h195 := h195.mono S973
            have h202 := h202.mono S973
            have h209 := h209.mono S973
            have h216 := h216.mono S973
            have h224 := h224.mono S973
            have h231 := h231.mono S973
            have h238 := h238.mono S973
            have h245 := h245.mono S973
            have h253 := h253.mono S973
            have h258 := S973 _ _ h258
            have hl259 := hl259.mono S973
            have h263 := S973 _ _ h263
            have hl264 := hl264.mono S973
            have h272 := h272.mono S973
            have h276 := h276.mono S973
            have h280 := S973 _ _ h280
            have hl281 := hl281.mono S973
            have r286 := r286.mono S973
            have h299 := S973 _ _ h299
            have hl300 := hl300.mono S973
            have r305 := r305.mono S973
            have hl754 := hl754.mono S973
            have h968 := h968.mono S973
            have hl976 := hl976.mono S973
            have h975 := R.lst (a := Sm) h974 hl976
            refine ⟨(by show 0 ≤ sizeLine; decide), fun p977 hp978 => ?_⟩
            have hl984 : RL (a := Sm) F971 ([]) ([] : List Sm) := RL.nil
            obtain ⟨F979, O980, S981, h982⟩ := O972.putE hp978 (.lst ([]))
            have f_rule := f_rule.mono S981
            have h4 := S981 _ _ h4
            have r9 := r9.mono S981
            have r10 := r10.mono S981
            have r11 := r11.mono S981
            have r12 := r12.mono S981
            have h18 := S981 _ _ h18
            have hl19 := hl19.mono S981
            have hl73 := hl73.mono S981
            have h81 := h81.mono S981
            have h95 := S981 _ _ h95
            have hl96 := hl96.mono S981
            have h126 := h126.mono S981
            have h133 := h133.mono S981
            have h140 := h140.mono S981
            have h147 := h147.mono S981
            have h155 := h155.mono S981
            have h162 := h162.mono S981
            have h169 := h169.mono S981
            have h176 := h176.mono S981
            have h184 := h184.mono S981
            have h188 := h188.mono S981
            have h195 := h195.mono S981
            have h202 := h202.mono S981
            have h209 := h209.mono S981
            have h216 := h216.mono S981
            have h224 := h224.mono S981
            have h231 := h231.mono S981
            have h238 := h238.mono S981
            have h245 := h245.mono S981
            have h253 := h253.mono S981
            have h258 := S981 _ _ h258
            have hl259 := hl259.mono S981
            have h263 := S981 _ _ h263
            have hl264 := hl264.mono S981
            have h272 := h272.mono S981
            have h276 := h276.mono S981
            have h280 := S981 _ _ h280
            have hl281 := hl281.mono S981
            have r286 := r286.mono S981
            have h299 := S981 _ _ h299
            have hl300 := hl300.mono S981
            have r305 := r305.mono S981
            have hl754 := hl754.mono S981
            have h968 := h968.mono S981
            have h975 := h975.mono S981
            have hl984 := hl984.mono S981
            have h983 := R.lst (a := Sm) h982 hl984
            refine ⟨(by show 0 ≤ sizeLine; decide), fun p985 hp986 => ?_⟩
            have hl992 : RL (a := Sm) F979 ([]) ([] : List Sm) := RL.nil
            obtain ⟨F987, O988, S989, h990⟩ := O980.putE hp986 (.lst ([]))
            have f_rule := f_rule.mono S989
            have h4 := S989 _ _ h4
            have r9 := r9.mono S989
            have r10 := r10.mono S989
            have r11 := r11.mono S989
            have r12 := r12.mono S989
            have h18 := S989 _ _ h18
            have hl19 := hl19.mono S989
            have hl73 := hl73.mono S989
            have h81 := h81.mono S989
            have h95 := S989 _ _ h95
            have hl96 := hl96.mono S989
            have h126 := h126.mono S989
            have h133 := h133.mono S989
            have h140 := h140.mono S989
            have h147 := h147.mono S989
            have h155 := h155.mono S989
            have h162 := h162.mono S989
            have h169 := h169.mono S989
            have h176 := h176.mono S989
            have h184 := h184.mono S989
            have h188 := h188.mono S989
            have h195 := h195.mono S989
            have h202 := h202.mono S989
            have h209 := h209.mono S989
            have h216 := h216.mono S989
            have h224 := h224.mono S989
            have h231 := h231.mono S989
            have h238 := h238.mono S989
            have h245 := h245.mono S989
            have h253 := h253.mono S989
            have h258 := S989 _ _ h258
            have hl259 := hl259.mono S989
            have h263 := S989 _ _ h263
            have hl264 := hl264.mono S989
            have h272 := h272.mono S989
            have h276 := h276.mono S989
            have h280 := S989 _ _ h280
            have hl281 := hl281.mono S989
            have r286 := r286.mono S989
            have h299 := S989 _ _ h299
            have hl300 := hl300.mono S989
            have r305 := r305.mono S989
            have hl754 := hl754.mono S989
            have h968 := h968.mono S989
            have h975 := h975.mono S989
            have h983 := h983.mono S989
            have hl992 := hl992.mono S989
            have h991 := R.lst (a := Sm) h990 hl992
            refine ⟨(by show 3 ≤ sizeLine; decide), fun p993 hp994 => ?_⟩
            have hl1000 : RL (a := (List Sm)) F987 ([V.ref p969, V.ref p977, V.ref p985]) ([([] : List Sm), ([] : List Sm), ([] : List Sm)]) := RL.cons h975 (RL.cons h983 (RL.cons h991 RL.nil))
            obtain ⟨F995, O996, S997, h998⟩ := O988.putE hp994 (.lst ([V.ref p969, V.ref p977, V.ref p985]))
            have f_rule := f_rule.mono S997
            have h4 := S997 _ _ h4
            have r9 := r9.mono S997
            have r10 := r10.mono S997
            have r11 := r11.mono S997
            have r12 := r12.mono S997
            have h18 := S997 _ _ h18
            have hl19 := hl19.mono S997
            have hl73 := hl73.mono S997
            have h81 := h81.mono S997
            have h95 := S997 _ _ h95
            have hl96 := hl96.mono S997
            have h126 := h126.mono S997
            have h133 := h133.mono S997
            have h140 := h140.mono S997
            have h147 := h147.mono S997
            have h155 := h155.mono S997
            have h162 := h162.mono S997
            have h169 := h169.mono S997
            have h176 := h176.mono S997
            have h184 := h184.mono S997
            have h188 := h188.mono S997
            have h195 := h195.mono S997
            have h202 := h202.mono S997
            have h209 := h209.mono S997
            have h216 := h216.mono S997
            have h224 := h224.mono S997
            have h231 := h231.mono S997
            have h238 := h238.mono S997
            have h245 := h245.mono S997
            have h253 := h253.mono S997
            have h258 := S997 _ _ h258
            have hl259 := hl259.mono S997
            have h263 := S997 _ _ h263
            have hl264 := hl264.mono S997
            have h272 := h272.mono S997
            have h276 := h276.mono S997
            have h280 := S997 _ _ h280
            have hl281 := hl281.mono S997
            have r286 := r286.mono S997
            have h299 := S997 _ _ h299
            have hl300 := hl300.mono S997
            have r305 := r305.mono S997
            have hl754 := hl754.mono S997
            have h968 := h968.mono S997
            have h975 := h975.mono S997
            have h983 := h983.mono S997
            have h991 := h991.mono S997
            have hl1000 := hl1000.mono S997
            have h999 := R.lst (a := (List Sm)) h998 hl1000
            obtain ⟨p1001, w1002, e1003, h1004, hl1005⟩ := R.lst_ h999
            cases e1003
            obtain ⟨y1006, e1007, hk⟩ := wp_opt hk
            obtain ⟨w1008, e1009, r1010⟩ := hl1005.atI e1007
            obtain ⟨p1011, w1012, e1013, h1014, hl1015⟩ := R.lst_ h999
            cases e1013
            obtain ⟨y1016, e1017, hk⟩ := wp_opt hk
            obtain ⟨w1018, e1019, r1020⟩ := hl1015.atI e1017
            obtain ⟨p1021, w1022, e1023, h1024, hl1025⟩ := R.lst_ h999
            cases e1023
            obtain ⟨y1026, e1027, hk⟩ := wp_opt hk
            obtain ⟨w1028, e1029, r1030⟩ := hl1025.atI e1027
            refine ⟨_, rfl, _, _, _, _, rfl, rfl, (SqLF O996.s h1004), e1009, _, rfl, _, _, _, _, rfl, rfl, (SqLF O996.s h1014), e1019, _, rfl, _, _, _, _, rfl, rfl, (SqLF O996.s h1024), e1029, _, rfl, _, _, _, _, rfl, rfl, (SqTF O996.s h4), rfl, (by show 4 ≤ sizeLine; decide), fun p1031 hp1032 => ?_⟩
            obtain ⟨F1033, O1034, S1035, h1036⟩ := O996.putE hp1032 (.tup [w1008, w1018, w1028, v8])
            have f_rule := f_rule.mono S1035
            have h4 := S1035 _ _ h4
            have r9 := r9.mono S1035
            have r10 := r10.mono S1035
            have r11 := r11.mono S1035
            have r12 := r12.mono S1035
            have h18 := S1035 _ _ h18
            have hl19 := hl19.mono S1035
            have hl73 := hl73.mono S1035
            have h81 := h81.mono S1035
            have h95 := S1035 _ _ h95
            have hl96 := hl96.mono S1035
            have h126 := h126.mono S1035
            have h133 := h133.mono S1035
            have h140 := h140.mono S1035
            have h147 := h147.mono S1035
            have h155 := h155.mono S1035
            have h162 := h162.mono S1035
            have h169 := h169.mono S1035
            have h176 := h176.mono S1035
            have h184 := h184.mono S1035
            have h188 := h188.mono S1035
            have h195 := h195.mono S1035
            have h202 := h202.mono S1035
            have h209 := h209.mono S1035
            have h216 := h216.mono S1035
            have h224 := h224.mono S1035
            have h231 := h231.mono S1035
            have h238 := h238.mono S1035
            have h245 := h245.mono S1035
            have h253 := h253.mono S1035
            have h258 := S1035 _ _ h258
            have hl259 := hl259.mono S1035
            have h263 := S1035 _ _ h263
            have hl264 := hl264.mono S1035
            have h272 := h272.mono S1035
            have h276 := h276.mono S1035
            have h280 := S1035 _ _ h280
            have hl281 := hl281.mono S1035
            have r286 := r286.mono S1035
            have h299 := S1035 _ _ h299
            have hl300 := hl300.mono S1035
            have r305 := r305.mono S1035
            have hl754 := hl754.mono S1035
            have h968 := h968.mono S1035
            have h975 := h975.mono S1035
            have h983 := h983.mono S1035
            have h991 := h991.mono S1035
            have h999 := h999.mono S1035
            have h1004 := S1035 _ _ h1004
            have hl1005 := hl1005.mono S1035
            have r1010 := r1010.mono S1035
            have h1014 := S1035 _ _ h1014
            have hl1015 := hl1015.mono S1035
            have r1020 := r1020.mono S1035
            have h1024 := S1035 _ _ h1024
            have hl1025 := hl1025.mono S1035
            have r1030 := r1030.mono S1035
            have h1037 : R (a := (T4 (List Sm) (List Sm) (List Sm) Sm)) F1033 (.ref p1031) (T4.mk y1006 y1016 y1026 x_rule.d) := R.t4 h1036 r1010 r1020 r1030 r12
            exact hk _ _ w752 O1034.g (O1034.at 0 rfl) hl754 _ h1037
          · have hk := wp_el hk q964
            refine ⟨_, rfl, _, _, R.int, R.int, _, rfl, ?_⟩
            refine iteD (fun q1038 => ?_) (fun q1038 => ?_)
            · have hk := wp_if hk q1038
              obtain ⟨F1039, O1040, S1041, h1042⟩ := Ow.llFrz (S := [(a_deck, .lst w752)]) (p := p26) (ps := wa59) O755 z54 zs65 hl62
              have f_rule := f_rule.mono S1041
              have h4 := S1041 _ _ h4
              have r9 := r9.mono S1041
              have r10 := r10.mono S1041
              have r11 := r11.mono S1041
              have r12 := r12.mono S1041
              have h18 := S1041 _ _ h18
              have hl19 := hl19.mono S1041
              have hl73 := hl73.mono S1041
              have h81 := h81.mono S1041
              have h95 := S1041 _ _ h95
              have hl96 := hl96.mono S1041
              have h126 := h126.mono S1041
              have h133 := h133.mono S1041
              have h140 := h140.mono S1041
              have h147 := h147.mono S1041
              have h155 := h155.mono S1041
              have h162 := h162.mono S1041
              have h169 := h169.mono S1041
              have h176 := h176.mono S1041
              have h184 := h184.mono S1041
              have h188 := h188.mono S1041
              have h195 := h195.mono S1041
              have h202 := h202.mono S1041
              have h209 := h209.mono S1041
              have h216 := h216.mono S1041
              have h224 := h224.mono S1041
              have h231 := h231.mono S1041
              have h238 := h238.mono S1041
              have h245 := h245.mono S1041
              have h253 := h253.mono S1041
              have h258 := S1041 _ _ h258
              have hl259 := hl259.mono S1041
              have h263 := S1041 _ _ h263
              have hl264 := hl264.mono S1041
              have h272 := h272.mono S1041
              have h276 := h276.mono S1041
              have h280 := S1041 _ _ h280
              have hl281 := hl281.mono S1041
              have r286 := r286.mono S1041
              have h299 := S1041 _ _ h299
              have hl300 := hl300.mono S1041
              have r305 := r305.mono S1041
              have hl754 := hl754.mono S1041
              obtain ⟨p1043, w1044, e1045, h1046, hl1047⟩ := R.lst_ h1042
              cases e1045
              obtain ⟨y1048, e1049, hk⟩ := wp_opt hk
              obtain ⟨w1050, e1051, r1052⟩ := hl1047.atI e1049
              obtain ⟨p1053, w1054, e1055, h1056, hl1057⟩ := R.lst_ h1042
              cases e1055
              obtain ⟨y1058, e1059, hk⟩ := wp_opt hk
              obtain ⟨w1060, e1061, r1062⟩ := hl1057.atI e1059
              obtain ⟨p1063, w1064, e1065, h1066, hl1067⟩ := R.lst_ h1042
              cases e1065
              obtain ⟨y1068, e1069, hk⟩ := wp_opt hk
              obtain ⟨w1070, e1071, r1072⟩ := hl1067.atI e1069
              refine ⟨_, rfl, _, _, _, _, rfl, rfl, (SqLF O1040.s h1046), e1051, _, rfl, _, _, _, _, rfl, rfl, (SqLF O1040.s h1056), e1061, _, rfl, _, _, _, _, rfl, rfl, (SqLF O1040.s h1066), e1071, _, rfl, (by show 4 ≤ sizeLine; decide), fun p1073 hp1074 => ?_⟩
              obtain ⟨F1075, O1076, S1077, h1078⟩ := O1040.putE hp1074 (.tup [w1050, w1060, w1070, w303])
              have f_rule := f_rule.mono S1077
              have h4 := S1077 _ _ h4
              have r9 := r9.mono S1077
              have r10 := r10.mono S1077
              have r11 := r11.mono S1077
              have r12 := r12.mono S1077
              have h18 := S1077 _ _ h18
              have hl19 := hl19.mono S1077
              have hl73 := hl73.mono S1077
              have h81 := h81.mono S1077
              have h95 := S1077 _ _ h95
              have hl96 := hl96.mono S1077
              have h126 := h126.mono S1077
              have h133 := h133.mono S1077
              have h140 := h140.mono S1077
              have h147 := h147.mono S1077
              have h155 := h155.mono S1077
              have h162 := h162.mono S1077
              have h169 := h169.mono S1077
              have h176 := h176.mono S1077
              have h184 := h184.mono S1077
              have h188 := h188.mono S1077
              have h195 := h195.mono S1077
              have h202 := h202.mono S1077
              have h209 := h209.mono S1077
              have h216 := h216.mono S1077
              have h224 := h224.mono S1077
              have h231 := h231.mono S1077
              have h238 := h238.mono S1077
              have h245 := h245.mono S1077
              have h253 := h253.mono S1077
              have h258 := S1077 _ _ h258
              have hl259 := hl259.mono S1077
              have h263 := S1077 _ _ h263
              have hl264 := hl264.mono S1077
              have h272 := h272.mono S1077
              have h276 := h276.mono S1077
              have h280 := S1077 _ _ h280
              have hl281 := hl281.mono S1077
              have r286 := r286.mono S1077
              have h299 := S1077 _ _ h299
              have hl300 := hl300.mono S1077
              have r305 := r305.mono S1077
              have hl754 := hl754.mono S1077
              have h1042 := h1042.mono S1077
              have h1046 := S1077 _ _ h1046
              have hl1047 := hl1047.mono S1077
              have r1052 := r1052.mono S1077
              have h1056 := S1077 _ _ h1056
              have hl1057 := hl1057.mono S1077
              have r1062 := r1062.mono S1077
              have h1066 := S1077 _ _ h1066
              have hl1067 := hl1067.mono S1077
              have r1072 := r1072.mono S1077
              have h1079 : R (a := (T4 (List Sm) (List Sm) (List Sm) Sm)) F1075 (.ref p1073) (T4.mk y1048 y1058 y1068 y301) := R.t4 h1078 r1052 r1062 r1072 r305
              exact hk _ _ w752 O1076.g (O1076.at 0 rfl) hl754 _ h1079
            · have hk := wp_el hk q1038
              obtain ⟨y1080, e1081, hk⟩ := wp_opt hk
              obtain ⟨j1082, c1083, e1084, hj1085, hl1086, hx1087⟩ := LLR.atI hl62 e1081
              refine ⟨_, rfl, _, rfl, _, rfl, _, _, _, _, rfl, rfl, (SqL.of (Ow.llTop (S := [(a_deck, .lst w752)]) (p := p26) (ps := wa59) O755)), e1084, _, rfl, _, rfl, _, _, _, _, _, rfl, (O755.pre1 0 rfl), hl754, wp_call hk (fun r1088 er1089 hk F1090 H1091 w1093 g1092 h1094 hl1095 => ?_) (fun n hn C H1 hC kp => hn C H1 hC (O755.kp1 kp 0 rfl))⟩
              have O1096 := O755.call1 g1092 0 rfl h1094
              have S_ := g1092.f
              have f_rule := f_rule.mono S_
              have h4 := S_ _ _ h4
              have r9 := r9.mono S_
              have r10 := r10.mono S_
              have r11 := r11.mono S_
              have r12 := r12.mono S_
              have h18 := S_ _ _ h18
              have hl19 := hl19.mono S_
              have hl62 := hl62.mono S_
              have hl73 := hl73.mono S_
              have h81 := h81.mono S_
              have h95 := S_ _ _ h95
              have hl96 := hl96.mono S_
              have h126 := h126.mono S_
              have h133 := h133.mono S_
              have h140 := h140.mono S_
              have h147 := h147.mono S_
              have h155 := h155.mono S_
              have h162 := h162.mono S_
              have h169 := h169.mono S_
              have h176 := h176.mono S_
              have h184 := h184.mono S_
              have h188 := h188.mono S_
              have h195 := h195.mono S_
              have h202 := h202.mono S_
              have h209 := h209.mono S_
              have h216 := h216.mono S_
              have h224 := h224.mono S_
              have h231 := h231.mono S_
              have h238 := h238.mono S_
              have h245 := h245.mono S_
              have h253 := h253.mono S_
              have h258 := S_ _ _ h258
              have hl259 := hl259.mono S_
              have h263 := S_ _ _ h263
              have hl264 := hl264.mono S_
              have h272 := h272.mono S_
              have h276 := h276.mono S_
              have h280 := S_ _ _ h280
              have hl281 := hl281.mono S_
              have r286 := r286.mono S_
              have h299 := S_ _ _ h299
              have hl300 := hl300.mono S_
              have r305 := r305.mono S_
              have hl1086 := hl1086.mono S_
              obtain ⟨j1097, e1098, hk⟩ := wp_setI hk
              obtain ⟨j1103, e1104, hk⟩ := wp_setI hk
              cases (hx1087.symm.trans e1104)
              refine ⟨_, _, _, _, rfl, rfl, (Ow.llAt (S := [(a_deck, .lst w1093)]) (p := p26) (ps := wa59) O1096 hj1085), (by rw [hl1086.len]; exact e1098), ?_⟩
              have O1100 := Ow.llSet (S := [(a_deck, .lst w1093)]) (p := p26) (ps := wa59) O1096 hj1085 (c1083.2.set j1097 w303)
              have hl1101 := LLR.set hl62 (RL.set j1097 hl1086 r305) c1083.1 j1082
              have zs1102 := zs_set zs65 hj1085 (c1083.2.set j1097 w303)
              obtain ⟨F1106, O1107, S1108, h1109⟩ := Ow.llFrz (S := [(a_deck, .lst w1093)]) (p := p26) (ps := (wa59.set j1082 (c1083.1, c1083.2.set j1097 w303))) O1100 z54 zs1102 hl1101
              have f_rule := f_rule.mono S1108
              have h4 := S1108 _ _ h4
              have r9 := r9.mono S1108
              have r10 := r10.mono S1108
              have r11 := r11.mono S1108
              have r12 := r12.mono S1108
              have h18 := S1108 _ _ h18
              have hl19 := hl19.mono S1108
              have hl73 := hl73.mono S1108
              have h81 := h81.mono S1108
              have h95 := S1108 _ _ h95
              have hl96 := hl96.mono S1108
              have h126 := h126.mono S1108
              have h133 := h133.mono S1108
              have h140 := h140.mono S1108
              have h147 := h147.mono S1108
              have h155 := h155.mono S1108
              have h162 := h162.mono S1108
              have h169 := h169.mono S1108
              have h176 := h176.mono S1108
              have h184 := h184.mono S1108
              have h188 := h188.mono S1108
              have h195 := h195.mono S1108
              have h202 := h202.mono S1108
              have h209 := h209.mono S1108
              have h216 := h216.mono S1108
              have h224 := h224.mono S1108
              have h231 := h231.mono S1108
              have h238 := h238.mono S1108
              have h245 := h245.mono S1108
              have h253 := h253.mono S1108
              have h258 := S1108 _ _ h258
              have hl259 := hl259.mono S1108
              have h263 := S1108 _ _ h263
              have hl264 := hl264.mono S1108
              have h272 := h272.mono S1108
              have h276 := h276.mono S1108
              have h280 := S1108 _ _ h280
              have hl281 := hl281.mono S1108
              have r286 := r286.mono S1108
              have h299 := S1108 _ _ h299
              have hl300 := hl300.mono S1108
              have r305 := r305.mono S1108
              have hl1095 := hl1095.mono S1108
              obtain ⟨p1110, w1111, e1112, h1113, hl1114⟩ := R.lst_ h1109
              cases e1112
              obtain ⟨y1115, e1116, hk⟩ := wp_opt hk
              obtain ⟨w1117, e1118, r1119⟩ := hl1114.atI e1116
              obtain ⟨p1120, w1121, e1122, h1123, hl1124⟩ := R.lst_ h1109
              cases e1122
              obtain ⟨y1125, e1126, hk⟩ := wp_opt hk
              obtain ⟨w1127, e1128, r1129⟩ := hl1124.atI e1126
              obtain ⟨p1130, w1131, e1132, h1133, hl1134⟩ := R.lst_ h1109
              cases e1132
              obtain ⟨y1135, e1136, hk⟩ := wp_opt hk
              obtain ⟨w1137, e1138, r1139⟩ := hl1134.atI e1136
              refine ⟨_, rfl, _, _, _, _, rfl, rfl, (SqLF O1107.s h1113), e1118, _, rfl, _, _, _, _, rfl, rfl, (SqLF O1107.s h1123), e1128, _, rfl, _, _, _, _, rfl, rfl, (SqLF O1107.s h1133), e1138, _, rfl, _, _, _, _, rfl, rfl, (SqTF O1107.s h4), rfl, (by show 4 ≤ sizeLine; decide), fun p1140 hp1141 => ?_⟩
              obtain ⟨F1142, O1143, S1144, h1145⟩ := O1107.putE hp1141 (.tup [w1117, w1127, w1137, v8])
              have f_rule := f_rule.mono S1144
              have h4 := S1144 _ _ h4
              have r9 := r9.mono S1144
              have r10 := r10.mono S1144
              have r11 := r11.mono S1144
              have r12 := r12.mono S1144
              have h18 := S1144 _ _ h18
              have hl19 := hl19.mono S1144
              have hl73 := hl73.mono S1144
              have h81 := h81.mono S1144
              have h95 := S1144 _ _ h95
              have hl96 := hl96.mono S1144
              have h126 := h126.mono S1144
              have h133 := h133.mono S1144
              have h140 := h140.mono S1144
              have h147 := h147.mono S1144
              have h155 := h155.mono S1144
              have h162 := h162.mono S1144
              have h169 := h169.mono S1144
              have h176 := h176.mono S1144
              have h184 := h184.mono S1144
              have h188 := h188.mono S1144
              have h195 := h195.mono S1144
              have h202 := h202.mono S1144
              have h209 := h209.mono S1144
              have h216 := h216.mono S1144
              have h224 := h224.mono S1144
              have h231 := h231.mono S1144
              have h238 := h238.mono S1144
              have h245 := h245.mono S1144
              have h253 := h253.mono S1144
              have h258 := S1144 _ _ h258
              have hl259 := hl259.mono S1144
              have h263 := S1144 _ _ h263
              have hl264 := hl264.mono S1144
              have h272 := h272.mono S1144
              have h276 := h276.mono S1144
              have h280 := S1144 _ _ h280
              have hl281 := hl281.mono S1144
              have r286 := r286.mono S1144
              have h299 := S1144 _ _ h299
              have hl300 := hl300.mono S1144
              have r305 := r305.mono S1144
              have hl1095 := hl1095.mono S1144
              have h1109 := h1109.mono S1144
              have h1113 := S1144 _ _ h1113
              have hl1114 := hl1114.mono S1144
              have r1119 := r1119.mono S1144
              have h1123 := S1144 _ _ h1123
              have hl1124 := hl1124.mono S1144
              have r1129 := r1129.mono S1144
              have h1133 := S1144 _ _ h1133
              have hl1134 := hl1134.mono S1144
              have r1139 := r1139.mono S1144
              have h1146 : R (a := (T4 (List Sm) (List Sm) (List Sm) Sm)) F1142 (.ref p1140) (T4.mk y1115 y1125 y1135 x_rule.d) := R.t4 h1145 r1119 r1129 r1139 r12
              exact hk _ _ w1093 O1143.g (O1143.at 0 rfl) hl1095 _ h1146
abbrev s_law : Stmt := top 55
theorem sc_law : FnScope ["script", "cell", "deck", "tree", "rule", "bad", "place", "way"] ["script"] (defScope s_law) := ⟨rfl, rfl, rfl, by decide +kernel, rfl, by decide +kernel, by decide +kernel⟩
def m_law (x_script : (List Int)) : M (Bool) :=
chk (([((10 : Int) ^ Int.toNat (18 : Int))]).length + (cutL x_script none (some (10 : Int))).length < 16777216) >>= fun _ =>
loopM (fun (y41 : Int) (st52 : Unit) =>
m_law_deck y41 >>= fun r65 =>
m_law_tree r65 (8 : Int) (4 : Int) >>= fun r79 =>
m_law_rule r79.2 true >>= fun r90 =>
m_law_bad_rule r90.2 r90.1 >>= fun r101 =>
m_need_rule r90.1 >>= fun r112 =>
m_law_take r101.2 (r79.1.1.length : Int) >>= fun r130 =>
loopM (fun (y157 : Int) (st168 : Unit) =>
chk (okR (7 : Int)) >>= fun _ =>
loopM (fun (y175 : Int) (st187 : Unit) =>
m_law_refused r79.1 r101.1 y157 y175 >>= fun r191 =>
if r191 = true then (
.ok (.nx ()))
else (
.ok (.rt (.rt (.rt false))))) (rangeL 0 (7 : Int)) () >>= fun f206 => match f206 with
| .rt z_ => .ok z_
| .nx st201 =>
.ok (.nx ())) ([r130.1, (-(1 : Int)), (r79.1.1.length : Int)]) () >>= fun f216 => match f216 with
| .rt z_ => .ok z_
| .nx st210 =>
.ok (.nx ())) (([((10 : Int) ^ Int.toNat (18 : Int))]) ++ (cutL x_script none (some (10 : Int)))) () >>= fun f232 => match f232 with
| .rt z_ => .ok z_
| .nx st221 =>
.ok true
def sp_law (K : PySem.W.Frag) : Sp := fun vs H Q E => ∃ (F : Hp) (a_script : Addr) (x_script : (List Int)), vs = [.ref a_script] ∧ Pre F [] H ∧ SqL K F a_script (x_script.map V.int) ∧
  wp (m_law x_script) (fun r => ∀ (F' H' : Hp), Gr [] F H F' H' → Q (V.bl r) H') (fun _ => False)
set_option maxHeartbeats 2000000 in
theorem ok_law (nb : Nb mg) (C_law_bad_rule : Ca P w K mg base "_law_bad_rule" 2 ["deck", "rule"] (sp_law_bad_rule mg)) (C_law_deck : Ca P w K mg base "_law_deck" 2 ["cell"] (sp_law_deck mg)) (C_law_refused : Ca P w K mg base "_law_refused" 79 ["tree", "rule", "place", "way"] (sp_law_refused mg)) (C_law_rule : Ca P w K mg base "_law_rule" 9 ["deck", "times"] (sp_law_rule mg)) (C_law_take : Ca P w K mg base "_law_take" 1 ["deck", "many"] (sp_law_take mg)) (C_law_tree : Ca P w K mg base "_law_tree" 3 ["deck", "most", "far"] (sp_law_tree mg)) (C_need_rule : Ca P w K mg base "need_rule" 63 ["rule"] (sp_need_rule mg)) {f : Addr} {fd : FuncData} (F_ : Fun K "law" "law" s_law f fd) : FnOk P w K mg base (L2.CX P w) 80 f fd ["script"] (sp_law K) := by
  obtain ⟨fa_law_bad_rule, fd_law_bad_rule, G_law_bad_rule, M_law_bad_rule, K_law_bad_rule, B_law_bad_rule⟩ := C_law_bad_rule.ex
  obtain ⟨fa_law_deck, fd_law_deck, G_law_deck, M_law_deck, K_law_deck, B_law_deck⟩ := C_law_deck.ex
  obtain ⟨fa_law_refused, fd_law_refused, G_law_refused, M_law_refused, K_law_refused, B_law_refused⟩ := C_law_refused.ex
  obtain ⟨fa_law_rule, fd_law_rule, G_law_rule, M_law_rule, K_law_rule, B_law_rule⟩ := C_law_rule.ex
  obtain ⟨fa_law_take, fd_law_take, G_law_take, M_law_take, K_law_take, B_law_take⟩ := C_law_take.ex
  obtain ⟨fa_law_tree, fd_law_tree, G_law_tree, M_law_tree, K_law_tree, B_law_tree⟩ := C_law_tree.ex
  obtain ⟨fa_need_rule, fd_need_rule, G_need_rule, M_need_rule, K_need_rule, B_need_rule⟩ := C_need_rule.ex
  refine F_.okX sc_law (fun vs H Q E h => ?_) (fun cdv A outer s H vs Q E hr h => ?_)
  · obtain ⟨F, _, _, rfl, _⟩ := h
    rfl
  · obtain ⟨F, a_script, x_script, rfl, P0, f_script, hk⟩ := h
    have nd := sc_law.nd
    have hu64 := hr.units
    have hu128 := hu128_of hr
    have O := P0.start
    refine ⟨_, (pss_cons (ps_for (passes_of rfl) rfl (piListK (K := K) rfl (pe_op op_cat (pe_lst (pa_cons (pe_op op_pow pe_int pe_int) pa_nil)) (pe_slice (slListK (K := K) rfl) (pv 0) po_none (po_some pe_int)))) (pg_name (i := 1) nd rfl (Or.inl rfl)) (pss_cons (ps_set (i := 2) nd rfl (Or.inl rfl) (pe_call G_law_deck (hr.mono (by decide)) rfl M_law_deck K_law_deck B_law_deck .nil (passes_call (takes_of rfl rfl rfl rfl) fun _ _ _ _ h => h) (pa_cons (pv 1) pa_nil)))
  (pss_cons (ps_set (i := 3) nd rfl (Or.inl rfl) (pe_call G_law_tree (hr.mono (by decide)) rfl M_law_tree K_law_tree B_law_tree .nil (passes_call (takes_of rfl rfl rfl rfl) fun _ _ _ _ h => h) (pa_cons (pv 2) (pa_cons pe_int (pa_cons pe_int pa_nil)))))
  (pss_cons (ps_set (i := 4) nd rfl (Or.inl rfl) (pe_call G_law_rule (hr.mono (by decide)) rfl M_law_rule K_law_rule B_law_rule .nil (passes_call (takes_of rfl rfl rfl rfl) fun _ _ _ _ h => h) (pa_cons (pv 2) (pa_cons pe_bl pa_nil))))
  (pss_cons (ps_set (i := 5) nd rfl (Or.inl rfl) (pe_call G_law_bad_rule (hr.mono (by decide)) rfl M_law_bad_rule K_law_bad_rule B_law_bad_rule .nil (passes_call (takes_of rfl rfl rfl rfl) fun _ _ _ _ h => h) (pa_cons (pv 2) (pa_cons (pv 4) pa_nil))))
  (pss_cons (ps_if (pt_cmpR op_notN (pe_call G_need_rule (hr.mono (by decide)) rfl M_need_rule K_need_rule B_need_rule .nil (passes_call (takes_of rfl rfl rfl rfl) fun _ _ _ _ h => h) (pa_cons (pv 4) pa_nil)) pe_non (nomark _)) (pss_one (ps_ret pe_bl)) pss_nil)
  (pss_one (ps_for (passes_of rfl) rfl (piListK (K := K) rfl (pe_lst (pa_cons (pe_call G_law_take (hr.mono (by decide)) rfl M_law_take K_law_take B_law_take .nil (passes_call (takes_of rfl rfl rfl rfl) fun _ _ _ _ h => h) (pa_cons (pv 2) (pa_cons (pe_callB call_lenT (by rfl) nb.b_len PySem.boot_len (pa_cons (pe_ix (ixTupK (K := K) rfl) (pv 3) pe_int (fun _ _ => rfl)) pa_nil)) pa_nil))) (pa_cons (pe_un un_neg pe_int) (pa_cons (pe_callB call_lenT (by rfl) nb.b_len PySem.boot_len (pa_cons (pe_ix (ixTupK (K := K) rfl) (pv 3) pe_int (fun _ _ => rfl)) pa_nil)) pa_nil))))) (pg_name (i := 6) nd rfl (Or.inl rfl)) (pss_one (ps_for (passes_of rfl) rfl (pi_range1 rfl nb.b_range (pa_cons pe_int pa_nil)) (pg_name (i := 7) nd rfl (Or.inl rfl)) (pss_one (ps_if (pt_not (pt_val (pe_call G_law_refused (hr.mono (by decide)) rfl M_law_refused K_law_refused B_law_refused .nil (passes_call (takes_of rfl rfl rfl rfl) fun _ _ _ _ h => h) (pa_cons (pv 3) (pa_cons (pv 5) (pa_cons (pv 6) (pa_cons (pv 7) pa_nil))))))) (pss_one (ps_ret pe_bl)) pss_nil))))))))))))
  (pss_one (ps_ret pe_bl))), ?_⟩
    refine ⟨_, _, rfl, rfl, (by decide), (by show 1 ≤ sizeLine; decide), fun p1 hp2 => ?_⟩
    have hl8 : RL (a := Int) F ([V.int ((10 : Int) ^ Int.toNat (18 : Int))]) ([((10 : Int) ^ Int.toNat (18 : Int))]) := RL.cons R.int RL.nil
    obtain ⟨F3, O4, S5, h6⟩ := O.putE hp2 (.lst ([V.int ((10 : Int) ^ Int.toNat (18 : Int))]))
    have f_script := S5.seq f_script
    have hl8 := hl8.mono S5
    have h7 := R.lst (a := Int) h6 hl8
    refine ⟨_, rfl, _, rfl, _, _, rfl, (O4.s.seq f_script), fun p9 hp10 => ?_⟩
    have hl16 : RL (a := Int) F3 (cutV (List.map V.int x_script) none (some (10 : Int))) (cutL x_script none (some (10 : Int))) := RL.cutL RL.of_ints none (some (10 : Int))
    obtain ⟨F11, O12, S13, h14⟩ := O4.putE hp10 (.lst (cutV (List.map V.int x_script) none (some (10 : Int))))
    have f_script := S13.seq f_script
    have h7 := h7.mono S13
    have hl16 := hl16.mono S13
    have h15 := R.lst (a := Int) h14 hl16
    obtain ⟨p17, w18, e19, h20, hl21⟩ := R.lst_ h7
    cases e19
    obtain ⟨p22, w23, e24, h25, hl26⟩ := R.lst_ h15
    cases e24
    obtain ⟨c27, hk⟩ := wp_chk hk
    refine ⟨_, _, _, _, rfl, rfl, (O12.s _ _ h20), (O12.s _ _ h25), (by rw [hl21.len, hl26.len]; exact le_line c27), fun p28 hp29 => ?_⟩
    have hl35 : RL (a := Int) F11 (w18 ++ w23) (([((10 : Int) ^ Int.toNat (18 : Int))]) ++ (cutL x_script none (some (10 : Int)))) := RL.app hl21 hl26
    obtain ⟨F30, O31, S32, h33⟩ := O12.putE hp29 (.lst (w18 ++ w23))
    have f_script := S32.seq f_script
    have h7 := h7.mono S32
    have h15 := h15.mono S32
    have h20 := S32 _ _ h20
    have hl21 := hl21.mono S32
    have h25 := S32 _ _ h25
    have hl26 := hl26.mono S32
    have hl35 := hl35.mono S32
    have h34 := R.lst (a := Int) h33 hl35
    obtain ⟨p36, w37, e38, h39, hl40⟩ := R.lst_ h34
    cases e38
    obtain ⟨L42, hL43, hLs44, hLd45⟩ := loopM_L hk
    refine ⟨_, rfl, ⟨_, (SqLF O31.s h39)⟩, ?_⟩
    refine for_list (K := K) (xs := w37) (fun i σ H => ∃ (F_ : Hp) (st : Unit) (t_0 : Option V) (t_1 : Option V) (t_2 : Option V) (t_3 : Option V) (t_4 : Option V) (t_5 : Option V) (t_6 : Option V), σ = [some (V.ref a_script), t_0, t_1, t_2, t_3, t_4, t_5, t_6] ∧ Same F30 F_ ∧ Ow _ F_ [] H ∧ L42 (List.drop i (([((10 : Int) ^ Int.toNat (18 : Int))]) ++ (cutL x_script none (some (10 : Int))))) st) ⟨F30, (), none, none, none, none, none, none, none, rfl, Same.refl _, O31, hL43⟩ (fun i_ σ_ H_ _ hp_ => ?_) ?_ ?_
    · obtain ⟨_, _, _, _, _, _, _, _, _, _, hS_, hO_, _⟩ := hp_
      exact SqLF hO_.s (hS_ _ _ h39)
    · rintro i46 x47 sg48 H49 hi50 ⟨F60, st52, t53, t54, t55, t56, t57, t58, t59, rfl, S51, O61, hL43⟩
      have f_script := S51.seq f_script
      have h7 := h7.mono S51
      have h15 := h15.mono S51
      have h20 := S51 _ _ h20
      have hl21 := hl21.mono S51
      have h25 := S51 _ _ h25
      have hl26 := hl26.mono S51
      have h34 := h34.mono S51
      have h39 := S51 _ _ h39
      have hl40 := hl40.mono S51
      obtain ⟨y41, e62, r63⟩ := RL.got hl40 hi50
      rw [drop_at e62] at hL43
      have hk := hLs44 _ _ _ hL43
      obtain rfl := R.int_ r63
      refine ⟨_, rfl, _, _, rfl, O61.pre0, wp_call hk (fun r65 er66 hk F67 H68 g69 p70 w71 hn72 hf73 h74 hl75 => ?_) (fun n hn C H1 hC kp => hn.elim)⟩
      have O76 := O61.call0 g69
      have S_ := g69.f
      have f_script := S_.seq f_script
      have h7 := h7.mono S_
      have h15 := h15.mono S_
      have h20 := S_ _ _ h20
      have hl21 := hl21.mono S_
      have h25 := S_ _ _ h25
      have hl26 := hl26.mono S_
      have h34 := h34.mono S_
      have h39 := S_ _ _ h39
      have hl40 := hl40.mono S_
      have S51 := S51.trans S_
      have O77 := O61.got O76 rfl hn72 hf73 h74
      have z78 := O61.was hn72
      refine ⟨_, rfl, _, _, _, _, _, _, rfl, (O77.pre1 0 rfl), hl75, wp_call hk (fun r79 er80 hk F81 H82 w84 g83 h85 hl86 v87 r88 => ?_) (fun n hn C H1 hC kp => hn.elim)⟩
      have O89 := O77.call1 g83 0 rfl h85
      have S_ := g83.f
      have f_script := S_.seq f_script
      have h7 := h7.mono S_
      have h15 := h15.mono S_
      have h20 := S_ _ _ h20
      have hl21 := hl21.mono S_
      have h25 := S_ _ _ h25
      have hl26 := hl26.mono S_
      have h34 := h34.mono S_
      have h39 := S_ _ _ h39
      have hl40 := hl40.mono S_
      have S51 := S51.trans S_
      refine ⟨_, rfl, _, _, _, _, _, rfl, (O89.pre1 0 rfl), hl86, wp_call hk (fun r90 er91 hk F92 H93 w95 g94 h96 hl97 v98 r99 => ?_) (fun n hn C H1 hC kp => hn.elim)⟩
      have O100 := O89.call1 g94 0 rfl h96
      have S_ := g94.f
      have f_script := S_.seq f_script
      have h7 := h7.mono S_
      have h15 := h15.mono S_
      have h20 := S_ _ _ h20
      have hl21 := hl21.mono S_
      have h25 := S_ _ _ h25
      have hl26 := hl26.mono S_
      have h34 := h34.mono S_
      have h39 := S_ _ _ h39
      have hl40 := hl40.mono S_
      have S51 := S51.trans S_
      have r88 := r88.mono S_
      refine ⟨_, rfl, _, rfl, _, _, _, _, _, _, rfl, (O100.pre1 0 rfl), hl97, r99, wp_call hk (fun r101 er102 hk F103 H104 w106 g105 h107 hl108 v109 r110 => ?_) (fun n hn C H1 hC kp => hn.elim)⟩
      have O111 := O100.call1 g105 0 rfl h107
      have S_ := g105.f
      have f_script := S_.seq f_script
      have h7 := h7.mono S_
      have h15 := h15.mono S_
      have h20 := S_ _ _ h20
      have hl21 := hl21.mono S_
      have h25 := S_ _ _ h25
      have hl26 := hl26.mono S_
      have h34 := h34.mono S_
      have h39 := S_ _ _ h39
      have hl40 := hl40.mono S_
      have S51 := S51.trans S_
      have r88 := r88.mono S_
      have r99 := r99.mono S_
      refine ⟨_, rfl, _, _, _, rfl, O111.pre0, r99, wp_call hk (fun r112 er113 hk F114 H115 g116 => ?_) (fun n hn C H1 hC kp => hn.elim)⟩
      have O117 := O111.call0 g116
      have S_ := g116.f
      have f_script := S_.seq f_script
      have h7 := h7.mono S_
      have h15 := h15.mono S_
      have h20 := S_ _ _ h20
      have hl21 := hl21.mono S_
      have h25 := S_ _ _ h25
      have hl26 := hl26.mono S_
      have h34 := h34.mono S_
      have h39 := S_ _ _ h39
      have hl40 := hl40.mono S_
      have S51 := S51.trans S_
      have r88 := r88.mono S_
      have r99 := r99.mono S_
      have hl108 := hl108.mono S_
      have r110 := r110.mono S_
      refine ⟨rfl, _, rfl, ?_⟩
      refine iteF ?_
      obtain ⟨p118, v121, v122, e119, h120, r123, r124⟩ := R.t2_ r88
      cases e119
      obtain ⟨p125, w126, e127, h128, hl129⟩ := R.lst_ r123
      cases e127
      refine ⟨_, rfl, _, rfl, _, _, _, _, rfl, rfl, (SqTF O117.s h120), rfl, _, _, _, rfl, (.inl (O117.s _ _ h128)), hl129.len, _, _, _, _, _, rfl, (O117.pre1 0 rfl), hl108, wp_call hk (fun r130 er131 hk F132 H133 w135 g134 h136 hl137 => ?_) (fun n hn C H1 hC kp => hn.elim)⟩
      have O138 := O117.call1 g134 0 rfl h136
      have S_ := g134.f
      have f_script := S_.seq f_script
      have h7 := h7.mono S_
      have h15 := h15.mono S_
      have h20 := S_ _ _ h20
      have hl21 := hl21.mono S_
      have h25 := S_ _ _ h25
      have hl26 := hl26.mono S_
      have h34 := h34.mono S_
      have h39 := S_ _ _ h39
      have hl40 := hl40.mono S_
      have S51 := S51.trans S_
      have r88 := r88.mono S_
      have r99 := r99.mono S_
      have r110 := r110.mono S_
      have h120 := S_ _ _ h120
      have r123 := r123.mono S_
      have r124 := r124.mono S_
      have h128 := S_ _ _ h128
      have hl129 := hl129.mono S_
      obtain ⟨p139, w140, e141, h142, hl143⟩ := R.lst_ r123
      cases e141
      refine ⟨_, rfl, _, rfl, _, _, _, _, rfl, rfl, (SqTF O138.s h120), rfl, _, _, _, rfl, (.inl (O138.s _ _ h142)), hl143.len, (by show 3 ≤ sizeLine; decide), fun p144 hp145 => ?_⟩
      have hl151 : RL (a := Int) F132 ([V.int r130.1, V.int (-(1 : Int)), V.int (r79.1.1.length : Int)]) ([r130.1, (-(1 : Int)), (r79.1.1.length : Int)]) := RL.cons R.int (RL.cons R.int (RL.cons R.int RL.nil))
      obtain ⟨F146, O147, S148, h149⟩ := O138.putE hp145 (.lst ([V.int r130.1, V.int (-(1 : Int)), V.int (r79.1.1.length : Int)]))
      have f_script := S148.seq f_script
      have h7 := h7.mono S148
      have h15 := h15.mono S148
      have h20 := S148 _ _ h20
      have hl21 := hl21.mono S148
      have h25 := S148 _ _ h25
      have hl26 := hl26.mono S148
      have h34 := h34.mono S148
      have h39 := S148 _ _ h39
      have hl40 := hl40.mono S148
      have S51 := S51.trans S148
      have r88 := r88.mono S148
      have r99 := r99.mono S148
      have r110 := r110.mono S148
      have h120 := S148 _ _ h120
      have r123 := r123.mono S148
      have r124 := r124.mono S148
      have h128 := S148 _ _ h128
      have hl129 := hl129.mono S148
      have hl137 := hl137.mono S148
      have h142 := S148 _ _ h142
      have hl143 := hl143.mono S148
      have hl151 := hl151.mono S148
      have h150 := R.lst (a := Int) h149 hl151
      obtain ⟨p152, w153, e154, h155, hl156⟩ := R.lst_ h150
      cases e154
      obtain ⟨L158, hL159, hLs160, hLd161⟩ := loopM_L hk
      refine ⟨_, rfl, ⟨_, (SqLF O147.s h155)⟩, ?_⟩
      refine for_list (K := K) (xs := w153) (fun i σ H => ∃ (F_ : Hp) (st : Unit) (t_0 : Option V) (t_1 : Option V), σ = [some (V.ref a_script), some (V.int y41), some (V.ref p70), some (V.ref p118), some v98, some v109, t_0, t_1] ∧ Same F146 F_ ∧ Ow _ F_ [(p70, .lst w135)] H ∧ L158 (List.drop i ([r130.1, (-(1 : Int)), (r79.1.1.length : Int)])) st) ⟨F146, (), t58, t59, rfl, Same.refl _, O147, hL159⟩ (fun i_ σ_ H_ _ hp_ => ?_) ?_ ?_
      · obtain ⟨_, _, _, _, _, hS_, hO_, _⟩ := hp_
        exact SqLF hO_.s (hS_ _ _ h155)
      · rintro i162 x163 sg164 H165 hi166 ⟨F171, st168, t169, t170, rfl, S167, O172, hL159⟩
        have f_script := S167.seq f_script
        have h7 := h7.mono S167
        have h15 := h15.mono S167
        have h20 := S167 _ _ h20
        have hl21 := hl21.mono S167
        have h25 := S167 _ _ h25
        have hl26 := hl26.mono S167
        have h34 := h34.mono S167
        have h39 := S167 _ _ h39
        have hl40 := hl40.mono S167
        have S51 := S51.trans S167
        have r88 := r88.mono S167
        have r99 := r99.mono S167
        have r110 := r110.mono S167
        have h120 := S167 _ _ h120
        have r123 := r123.mono S167
        have r124 := r124.mono S167
        have h128 := S167 _ _ h128
        have hl129 := hl129.mono S167
        have hl137 := hl137.mono S167
        have h142 := S167 _ _ h142
        have hl143 := hl143.mono S167
        have h150 := h150.mono S167
        have h155 := S167 _ _ h155
        have hl156 := hl156.mono S167
        obtain ⟨y157, e173, r174⟩ := RL.got hl156 hi166
        rw [drop_at e173] at hL159
        have hk := hLs160 _ _ _ hL159
        obtain rfl := R.int_ r174
        obtain ⟨c176, hk⟩ := wp_chk hk
        obtain ⟨L177, hL178, hLs179, hLd180⟩ := loopM_L hk
        refine ⟨_, rfl, c176.lo, c176.hi, ?_⟩
        refine for_range (lo := 0) (n := ((7 : Int)).toNat) (fun i σ H => ∃ (F_ : Hp) (st : Unit) (t_0 : Option V), σ = [some (V.ref a_script), some (V.int y41), some (V.ref p70), some (V.ref p118), some v98, some v109, some (V.int y157), t_0] ∧ Same F171 F_ ∧ Ow _ F_ [(p70, .lst w135)] H ∧ L177 (List.drop i (rangeL 0 (7 : Int))) st) ⟨F171, (), t170, rfl, Same.refl _, O172, hL178⟩ ?_ ?_
        · rintro i181 sg183 H184 hi185 ⟨F189, st187, t188, rfl, S186, O190, hL178⟩
          have f_script := S186.seq f_script
          have h7 := h7.mono S186
          have h15 := h15.mono S186
          have h20 := S186 _ _ h20
          have hl21 := hl21.mono S186
          have h25 := S186 _ _ h25
          have hl26 := hl26.mono S186
          have h34 := h34.mono S186
          have h39 := S186 _ _ h39
          have hl40 := hl40.mono S186
          have S51 := S51.trans S186
          have r88 := r88.mono S186
          have r99 := r99.mono S186
          have r110 := r110.mono S186
          have h120 := S186 _ _ h120
          have r123 := r123.mono S186
          have r124 := r124.mono S186
          have h128 := S186 _ _ h128
          have hl129 := hl129.mono S186
          have hl137 := hl137.mono S186
          have h142 := S186 _ _ h142
          have hl143 := hl143.mono S186
          have h150 := h150.mono S186
          have h155 := S186 _ _ h155
          have hl156 := hl156.mono S186
          have S167 := S167.trans S186
          rw [rangeL_get0 hi185] at hL178
          have hk := hLs179 _ _ _ hL178
          obtain ⟨y175, he_⟩ : ∃ z_, z_ = 0 + (i181 : Int) := ⟨_, rfl⟩
          try rw [← he_] at hk
          rw [← he_]
          refine ⟨_, rfl, _, rfl, _, rfl, _, rfl, _, _, _, _, _, _, _, rfl, O190.pre0, r88, r110, wp_call hk (fun r191 er192 hk F193 H194 g195 => ?_) (fun n hn C H1 hC kp => hn.elim)⟩
          have O196 := O190.call0 g195
          have S_ := g195.f
          have f_script := S_.seq f_script
          have h7 := h7.mono S_
          have h15 := h15.mono S_
          have h20 := S_ _ _ h20
          have hl21 := hl21.mono S_
          have h25 := S_ _ _ h25
          have hl26 := hl26.mono S_
          have h34 := h34.mono S_
          have h39 := S_ _ _ h39
          have hl40 := hl40.mono S_
          have S51 := S51.trans S_
          have r88 := r88.mono S_
          have r99 := r99.mono S_
          have r110 := r110.mono S_
          have h120 := S_ _ _ h120
          have r123 := r123.mono S_
          have r124 := r124.mono S_
          have h128 := S_ _ _ h128
          have hl129 := hl129.mono S_
          have hl137 := hl137.mono S_
          have h142 := S_ _ _ h142
          have hl143 := hl143.mono S_
          have h150 := h150.mono S_
          have h155 := S_ _ _ h155
          have hl156 := hl156.mono S_
          have S167 := S167.trans S_
          have S186 := S186.trans S_
          refine ⟨_, rfl, ?_⟩
          refine iteBN (fun q197 => ?_) (fun q197 => ?_)
          · have hk := wp_if hk q197
            exact ⟨F193, (), some (V.int y175), rfl, S186, O196, hk⟩
          · have hk := wp_el hk q197
            exact hk _ _  O196.g 
        rintro sg198 H199 ⟨F204, st201, t203, rfl, S200, O205, hL202⟩
        rw [rangeL_end0] at hL202
        have hk := hLd180 _ hL202
        have f_script := S200.seq f_script
        have h7 := h7.mono S200
        have h15 := h15.mono S200
        have h20 := S200 _ _ h20
        have hl21 := hl21.mono S200
        have h25 := S200 _ _ h25
        have hl26 := hl26.mono S200
        have h34 := h34.mono S200
        have h39 := S200 _ _ h39
        have hl40 := hl40.mono S200
        have S51 := S51.trans S200
        have r88 := r88.mono S200
        have r99 := r99.mono S200
        have r110 := r110.mono S200
        have h120 := S200 _ _ h120
        have r123 := r123.mono S200
        have r124 := r124.mono S200
        have h128 := S200 _ _ h128
        have hl129 := hl129.mono S200
        have hl137 := hl137.mono S200
        have h142 := S200 _ _ h142
        have hl143 := hl143.mono S200
        have h150 := h150.mono S200
        have h155 := S200 _ _ h155
        have hl156 := hl156.mono S200
        have S167 := S167.trans S200
        exact ⟨F204, (), some (V.int y157), t203, rfl, S167, O205, hk⟩
      rintro sg207 H208 ⟨F214, st210, t212, t213, rfl, S209, O215, hL211⟩
      rw [drop_end hl156.len] at hL211
      have hk := hLd161 _ hL211
      have f_script := S209.seq f_script
      have h7 := h7.mono S209
      have h15 := h15.mono S209
      have h20 := S209 _ _ h20
      have hl21 := hl21.mono S209
      have h25 := S209 _ _ h25
      have hl26 := hl26.mono S209
      have h34 := h34.mono S209
      have h39 := S209 _ _ h39
      have hl40 := hl40.mono S209
      have S51 := S51.trans S209
      have r88 := r88.mono S209
      have r99 := r99.mono S209
      have r110 := r110.mono S209
      have h120 := S209 _ _ h120
      have r123 := r123.mono S209
      have r124 := r124.mono S209
      have h128 := S209 _ _ h128
      have hl129 := hl129.mono S209
      have hl137 := hl137.mono S209
      have h142 := S209 _ _ h142
      have hl143 := hl143.mono S209
      have h150 := h150.mono S209
      have h155 := S209 _ _ h155
      have hl156 := hl156.mono S209
      have O217 := O215.drop 0
      exact ⟨F214, (), some (V.int y41), some (V.ref p70), some (V.ref p118), some v98, some v109, t212, t213, rfl, S51, O217, hk⟩
    rintro sg218 H219 ⟨F230, st221, t223, t224, t225, t226, t227, t228, t229, rfl, S220, O231, hL222⟩
    rw [drop_end hl40.len] at hL222
    have hk := hLd45 _ hL222
    have f_script := S220.seq f_script
    have h7 := h7.mono S220
    have h15 := h15.mono S220
    have h20 := S220 _ _ h20
    have hl21 := hl21.mono S220
    have h25 := S220 _ _ h25
    have hl26 := hl26.mono S220
    have h34 := h34.mono S220
    have h39 := S220 _ _ h39
    have hl40 := hl40.mono S220
    exact hk _ _  O231.g 
end
set_option maxHeartbeats 2000000
def m_law_value : Nat → Sm → (List (Str × IL)) → M (Int)
  | 0, _, _ => bad
  | k_ + 1, x_told, x_known =>
    if (Sm.word x_told) = ("number" : Str) then (
    opt (Sm.int? x_told) >>= fun y6 =>
    .ok y6)
    else (
    if (Sm.word x_told) ∈ ([(("own" : Str), ("tie" : Str)).1, (("own" : Str), ("tie" : Str)).2]) then (
    opt (dGet x_known (Sm.word x_told)) >>= fun y40 =>
    opt (IL.i? y40) >>= fun y45 =>
    .ok y45)
    else (
    if (Sm.word x_told) ∈ ([(("so" : Str), ("more" : Str)).1, (("so" : Str), ("more" : Str)).2]) then (
    opt (dGet x_known (Sm.word x_told)) >>= fun y76 =>
    opt (Sm.int? x_told) >>= fun y81 =>
    opt (IL.l? y76) >>= fun y87 =>
    opt (atI y87 y81) >>= fun y95 =>
    .ok y95)
    else (
    opt (Sm.two? x_told) >>= fun y100 =>
    compS (fun (y117 : Sm) (st134 : Unit) =>
    m_law_value k_ y117 x_known >>= fun r140 =>
    .ok (some r140, ())) ([y100.1, y100.2]) () >>= fun q157 =>
    two2 q157.1 >>= fun (x168, y169) =>
    if (Sm.word x_told) = ("times" : Str) then (
    chk (CMulW x168 y169) >>= fun _ =>
    .ok (x168 * y169))
    else (
    if (Sm.word x_told) ∈ ([(("plus" : Str), ("less" : Str)).1, (("plus" : Str), ("less" : Str)).2]) then (
    opt (atI ([(1 : Int), (-(1 : Int))]) (if (decide ((Sm.word x_told) = ("less" : Str))) = true then (1 : Int) else 0)) >>= fun y225 =>
    chk (CMulW y225 y169) >>= fun _ =>
    .ok (x168 + (y225 * y169)))
    else (
    opt (atI (sortT ([x168, y169])) (if (decide ((Sm.word x_told) = ("most" : Str))) = true then (1 : Int) else 0)) >>= fun y261 =>
    .ok y261)))))

/-! ### the law's own helpers -/
abbrev D2 := {e : Int × Int // 0 ≤ e.2 ∧ e.2 < 2147483648}
def dk (d : D2) : List Int := [d.1.1, d.1.2]
theorem pow10 (n : Nat) : (10 : Int) ^ n = ((10 ^ n : Nat) : Int) := by rw [Int.natCast_pow]; rfl
theorem stir_ok (c k : Int) (h : 1 ≤ k ∧ k ≤ 3) : ∃ s, m_law_stir c k = .ok s ∧ 0 ≤ s ∧ s < 10 ^ 62 := by
  unfold m_law_stir
  have e40 : (10 : Int) ^ Int.toNat (40 : Int) = 10000000000000000000000000000000000000000 := by decide
  have e60 : (3 : Int) ^ Int.toNat (60 : Int) = 42391158275216203514294433201 := by decide
  have e61 : (10 : Int) ^ Int.toNat (61 : Int) = 10000000000000000000000000000000000000000000000000000000000000 := by decide
  rw [e40, e60, e61]
  obtain ⟨r, hr⟩ : ∃ r, r = c % 10000000000000000000000000000000000000000 := ⟨_, rfl⟩
  have r0 : 0 ≤ r := by omega
  have r1 : r < 10000000000000000000000000000000000000000 := by omega
  rw [← hr]
  rw [chk_b (by decide)]
  rw [chk_b (cmulW (Nat.lt_of_lt_of_le (m := 10 ^ 40) (by omega) (by decide +kernel)) (by decide +kernel))]
  rw [chk_b (cmulW (by decide +kernel) (Nat.lt_of_lt_of_le (m := 5) (by omega) (by decide +kernel)))]
  obtain ⟨q, hq⟩ : ∃ q, q = 42391158275216203514294433201 * (k + 1) := ⟨_, rfl⟩
  have q0 : 0 ≤ q ∧ q ≤ 42391158275216203514294433201 * 4 := by omega
  rw [← hq]
  rw [chk_b (cmulW (Nat.lt_of_lt_of_le (m := 10 ^ 40) (by omega) (by decide +kernel)) (Nat.lt_of_lt_of_le (m := 5) (by omega) (by decide +kernel)))]
  have q2 : 0 ≤ q * (k + 1) ∧ q * (k + 1) ≤ 42391158275216203514294433201 * 16 := by
    have : k = 1 ∨ k = 2 ∨ k = 3 := by omega
    rcases this with rfl | rfl | rfl <;> omega
  rw [ret_b]
  obtain ⟨n, hn⟩ : ∃ n, n = r * 48271 + q * (k + 1) + k := ⟨_, rfl⟩
  rw [← hn]
  have n0 : 0 ≤ n := by omega
  have n1 : n.natAbs < 2 ^ 160 := Nat.lt_of_lt_of_le (m := 10 ^ 46) (by omega) (by decide)
  rw [chk_b (cmulW (Nat.lt_of_lt_of_le n1 (Nat.pow_le_pow_right (by decide) (by decide))) (Nat.lt_of_lt_of_le n1 (Nat.pow_le_pow_right (by decide) (by decide))))]
  rw [chk_b (cmulW (by decide +kernel) (Nat.lt_of_lt_of_le n1 (Nat.pow_le_pow_right (by decide) (by decide))))]
  rw [ret_b]
  have m1 : (n * n).natAbs < 2 ^ (160 + 160) := wide_lt n1 n1
  have m2 : ((69621 : Int) * n).natAbs < 2 ^ (17 + 160) := wide_lt (by decide) n1
  have m3 : (n * n + 69621 * n).natAbs < 2 ^ 321 := by
    have a1 := Int.natAbs_add_le (n * n) (69621 * n)
    have a2 : (2 : Nat) ^ (17 + 160) ≤ 2 ^ 320 := Nat.pow_le_pow_right (by decide) (by decide)
    have a3 : (2 : Nat) ^ 321 = 2 ^ 320 + 2 ^ 320 := by decide
    omega
  rw [chk_b (cmulW (Nat.lt_of_lt_of_le m3 (Nat.pow_le_pow_right (by decide) (by decide))) (Nat.lt_of_lt_of_le m3 (Nat.pow_le_pow_right (by decide) (by decide))))]
  rw [chk_b (by decide), chk_b (cdivW (by decide) (by decide))]
  refine ⟨_, rfl, ?_⟩
  have : (10 : Int) ^ 62 = 100000000000000000000000000000000000000000000000000000000000000 := by decide
  rw [this]
  omega
theorem take_big (d : D2) (m : Int) (h : 0 < m) (h2 : m ≤ 10 ^ 40) : ∃ x d', m_law_take (dk d) m = .ok (x, dk d') ∧ 0 ≤ x ∧ x < m := by
  obtain ⟨⟨a, e⟩, e0, e1⟩ := d
  have e0 : 0 ≤ e := e0
  have e1 : e < 2147483648 := e1
  show ∃ x d', m_law_take [a, e] m = .ok (x, dk d') ∧ 0 ≤ x ∧ x < m
  unfold m_law_take
  rw [opt_b (show L2.atI [a, e] (0 : Int) = some a from rfl)]
  by_cases z : a = 0
  · rw [if_pos z]
    have f0 : 0 ≤ (e * 48271 + e / 7) % 2147483647 := Int.emod_nonneg _ (by decide)
    have f1 : (e * 48271 + e / 7) % 2147483647 < 2147483647 := Int.emod_lt_of_pos _ (by decide)
    obtain ⟨f, hf⟩ : ∃ f, f = (e * 48271 + e / 7) % 2147483647 := ⟨_, rfl⟩
    refine ⟨(f * 69621 % 2147483563 / 8) % m, ⟨(a, f), by show 0 ≤ f; omega, by show f < 2147483648; omega⟩, ?_, Int.emod_nonneg _ (by omega), Int.emod_lt_of_pos _ h⟩
    have g0 : 0 ≤ f * 69621 % 2147483563 := Int.emod_nonneg _ (by decide)
    have g1 : f * 69621 % 2147483563 < 2147483563 := Int.emod_lt_of_pos _ (by decide)
    rw [opt_b (show L2.atI [a, e] (1 : Int) = some e from rfl)]
    rw [chk_b (cmulW (Nat.lt_of_lt_of_le (m := 10 ^ 40) (by omega) (by decide +kernel)) (by decide +kernel))]
    rw [opt_b (show L2.atI [a, e] (1 : Int) = some e from rfl), chk_b (cdivW (by decide) (by decide)), chk_b (by decide)]
    rw [← hf]
    rw [bind_ok (show setI [a, e] (1 : Int) f = .ok [a, f] from rfl)]
    rw [opt_b (show L2.atI [a, f] (1 : Int) = some f from rfl)]
    rw [chk_b (cmulW (Nat.lt_of_lt_of_le (m := 10 ^ 40) (by omega) (by decide +kernel)) (by decide +kernel)), chk_b (by decide)]
    rw [chk_b (cdivW (by decide) (by decide)), chk_b h]
    rfl
  · rw [if_neg z]
    refine ⟨a % m, ⟨(a / m, e), e0, e1⟩, ?_, Int.emod_nonneg _ (by omega), Int.emod_lt_of_pos _ h⟩
    rw [opt_b (show L2.atI [a, e] (0 : Int) = some a from rfl), chk_b h, opt_b (show L2.atI [a, e] (0 : Int) = some a from rfl), chk_b (cdivW h h2)]
    rw [bind_ok (show setI [a, e] (0 : Int) (a / m) = .ok [a / m, e] from rfl)]
    rfl
theorem deck_ok (c : Int) : ∃ d, m_law_deck c = .ok (dk d) := by
  unfold m_law_deck
  have e60 : (10 : Int) ^ Int.toNat (60 : Int) = 10 ^ 60 := rfl
  by_cases h : (10 : Int) ^ Int.toNat (18 : Int) ≤ c
  · rw [if_pos h, chk_b (by decide)]
    exact ⟨⟨(c - (10 : Int) ^ Int.toNat (18 : Int), (c - (10 : Int) ^ Int.toNat (18 : Int)) % 2147483629), Int.emod_nonneg _ (by decide), Int.lt_trans (Int.emod_lt_of_pos _ (by decide)) (by decide)⟩, rfl⟩
  · rw [if_neg h]
    obtain ⟨s1, e1, a1, b1⟩ := stir_ok c 1 (by decide)
    obtain ⟨s2, e2, a2, b2⟩ := stir_ok c 2 (by decide)
    obtain ⟨s3, e3, _, _⟩ := stir_ok c 3 (by decide)
    have k62 : ((10 : Int) ^ 62).natAbs < 2 ^ 210 := by decide
    have w1 : s1.natAbs < 2 ^ 210 := wide_le a1 (Int.le_of_lt b1) k62
    have w2 : s2.natAbs < 2 ^ 210 := wide_le a2 (Int.le_of_lt b2) k62
    have k60 : ((10 : Int) ^ 60).natAbs < 2 ^ 200 := by decide
    rw [bind_ok e1, e60, chk_b (cmulW (Nat.lt_of_lt_of_le w1 (Nat.pow_le_pow_right (by decide) (by decide))) (Nat.lt_of_lt_of_le k60 (Nat.pow_le_pow_right (by decide) (by decide)))), bind_ok e2]
    have m1 : (s1 * 10 ^ 60).natAbs < 2 ^ (210 + 200) := wide_lt w1 k60
    have m2 : (s1 * 10 ^ 60 + s2).natAbs < 2 ^ 411 := by
      have x1 := Int.natAbs_add_le (s1 * 10 ^ 60) s2
      have x2 : (2 : Nat) ^ 210 ≤ 2 ^ 410 := Nat.pow_le_pow_right (by decide) (by decide)
      have x3 : (2 : Nat) ^ 411 = 2 ^ 410 + 2 ^ 410 := by decide
      omega
    rw [chk_b (cmulW (Nat.lt_of_lt_of_le m2 (Nat.pow_le_pow_right (by decide) (by decide))) (Nat.lt_of_lt_of_le k60 (Nat.pow_le_pow_right (by decide) (by decide)))), bind_ok e3]
    have v0 : 0 ≤ c % 2147483628 + 1 := by omega
    have v1 : c % 2147483628 + 1 < 2147483648 := by omega
    first
      | exact ⟨⟨(_, c % 2147483628 + 1), v0, v1⟩, rfl⟩
      | (rw [chk_b (by decide)]; exact ⟨⟨(_, c % 2147483628 + 1), v0, v1⟩, rfl⟩)
/-- how far numbers go -/
def farB : Int := 100000000000000000000000000000
theorem number_ok (d : D2) (far : Int) (h : 0 ≤ far) (h2 : far ≤ farB) : ∃ x d', m_law_number (dk d) far = .ok (x, dk d') ∧ -far ≤ x ∧ x ≤ far := by
  unfold m_law_number
  have hb : far ≤ 100000000000000000000000000000 := h2
  have k : (10 : Int) ^ 40 = 10000000000000000000000000000000000000000 := by decide
  rw [chk_b (cmulW (by decide +kernel) (Nat.lt_of_lt_of_le (m := 10 ^ 40) (by omega) (by decide +kernel)))]
  obtain ⟨x, d', e, x0, x1⟩ := take_big d (2 * far + 1) (by omega) (by omega)
  rw [bind_ok e]
  exact ⟨x - far, d', rfl, by omega, by omega⟩
theorem take_small (d : D2) (m : Int) (h : 0 < m) (h2 : m ≤ 1000000) : ∃ x d', m_law_take (dk d) m = .ok (x, dk d') ∧ 0 ≤ x ∧ x < m := by
  have k : (10 : Int) ^ 40 = 10000000000000000000000000000000000000000 := by decide
  exact take_big d m h (by omega)
theorem nums_ok (far : Int) (h : 0 ≤ far) (h2 : far ≤ farB) {items : List Int} (hl : items.length < 16777216) (d : D2) :
    ∃ xs d', compS (fun (_ : Int) (st : List Int) => m_law_number st far >>= fun r => .ok (some r.1, r.2)) items (dk d) = .ok (xs, (dk d')) ∧ xs.length = items.length ∧ ∀ x ∈ xs, -far ≤ x ∧ x ≤ far := by
  obtain ⟨acc, st, e, ⟨d', rfl⟩, h3, h4⟩ := compS_run (f := fun (_ : Int) (st : List Int) => m_law_number st far >>= fun r => .ok (some r.1, r.2)) hl
    (fun pre acc st => (∃ d', st = (dk d')) ∧ acc.length = pre.length ∧ ∀ x ∈ acc, -far ≤ x ∧ x ≤ far) (x := (dk d)) ⟨⟨d, rfl⟩, rfl, fun _ h => nomatch h⟩ fun pre y post acc st _ ⟨⟨d', hd⟩, h3, h4⟩ => by
      subst hd
      obtain ⟨x, d2, e, hx⟩ := number_ok d' far h h2
      refine ⟨some x, (dk d2), by rw [bind_ok e], ⟨d2, rfl⟩, by simp [h3], fun z hz => ?_⟩
      rcases List.mem_append.mp hz with hz | hz
      · exact h4 z hz
      · rw [List.mem_singleton.mp hz]; exact hx
  exact ⟨acc, d', e, h3, h4⟩
theorem rangeL_mem {lo hi x : Int} : x ∈ rangeL lo hi ↔ lo ≤ x ∧ x < hi := by
  unfold rangeL
  rw [List.mem_map]
  constructor
  · rintro ⟨j, hj, rfl⟩
    have := List.mem_range.mp hj
    omega
  · rintro ⟨h1, h2⟩
    exact ⟨(x - lo).toNat, List.mem_range.mpr (by omega), by omega⟩
theorem rangeL_nodup (lo hi : Int) : (rangeL lo hi).Nodup := by
  unfold rangeL
  rw [List.nodup_iff_pairwise_ne, List.pairwise_map]
  exact List.nodup_range.imp fun h e => h (by omega)
/-- an order of all places -/
theorem order_ok (d : D2) (n : Int) (h0 : 0 ≤ n) (h1 : n ≤ 1000000) : ∃ o d', m_law_order (dk d) n = .ok (o, (dk d')) ∧ o.Perm (rangeL 0 n) := by
  unfold m_law_order
  have hr : okR n := ⟨by omega, h1⟩
  rw [chk_b hr, chk_b hr]
  have hlen : (rangeL 0 n).length = n.toNat := by rw [rangeL_length]; omega
  obtain ⟨st, e, h2⟩ := loopN_run (f := fun (_ : Int) (st26 : (List Int) × (List Int) × (List Int)) =>
      m_law_take st26.2.2 (st26.2.1.length : Int) >>= fun r36 => popI st26.2.1 r36.1 >>= fun t54 => appL st26.1 t54.1 >>= fun _ => (.ok ((st26.1 ++ [t54.1]), t54.2, r36.2) : M _))
    (all := rangeL 0 n) (fun pre st => (∃ d', st.2.2 = (dk d')) ∧ (st.1 ++ st.2.1).Perm (rangeL 0 n) ∧ st.1.length = pre.length) (x := ([], rangeL 0 n, (dk d))) ⟨⟨d, rfl⟩, List.Perm.refl _, rfl⟩ fun pre y post st ea ⟨⟨d', hd⟩, hp, hl⟩ => by
      obtain ⟨fs, ls, ds⟩ := st
      have hd : ds = (dk d') := hd
      subst hd
      have hp : (fs ++ ls).Perm (rangeL 0 n) := hp
      have hl : fs.length = pre.length := hl
      have hpl := hp.length_eq
      rw [List.length_append, hlen] at hpl
      have hal := congrArg List.length ea
      rw [List.length_append, List.length_cons, hlen] at hal
      obtain ⟨x, d2, ex, x0, x1⟩ := take_small d' (ls.length : Int) (by omega) (by omega)
      have hx : x.toNat < ls.length := by omega
      have eg : ls[x.toNat]? = some ls[x.toNat] := List.getElem?_eq_getElem hx
      refine ⟨(fs ++ [ls[x.toNat]], ls.eraseIdx x.toNat, (dk d2)), ?_, ⟨d2, rfl⟩, ?_, by simp [hl]⟩
      · show (m_law_take (dk d') (ls.length : Int) >>= fun r36 => popI ls r36.1 >>= fun t54 => appL fs t54.1 >>= fun _ => (.ok ((fs ++ [t54.1]), t54.2, r36.2) : M _)) = _
        rw [bind_ok ex, bind_ok (popI_ok x0 eg (by omega)), bind_ok (appL_ok (by omega))]
      · show ((fs ++ [ls[x.toNat]]) ++ ls.eraseIdx x.toNat).Perm (rangeL 0 n)
        refine List.Perm.trans ?_ hp
        rw [List.append_assoc]
        refine List.Perm.append_left fs ?_
        show (ls[x.toNat] :: ls.eraseIdx x.toNat).Perm ls
        exact erase_perm hx
  obtain ⟨fs, ls, ds⟩ := st
  obtain ⟨⟨d', hd⟩, hp, hl⟩ := h2
  have hd : ds = (dk d') := hd
  subst hd
  have hp : (fs ++ ls).Perm (rangeL 0 n) := hp
  have hl : fs.length = (rangeL 0 n).length := hl
  have hpl := hp.length_eq
  rw [List.length_append] at hpl
  have : ls = [] := List.length_eq_zero_iff.mp (by omega)
  subst this
  rw [List.append_nil] at hp
  rw [bind_ok e]
  exact ⟨fs, d', rfl, hp⟩

theorem at5 (a b c d e k : Int) (h : 0 ≤ k) (h5 : k < 5) (P : Int → Prop) (pa : P a) (pb : P b) (pc : P c) (pd : P d) (pe : P e) : ∃ x, L2.atI [a, b, c, d, e] k = some x ∧ P x := by
  obtain ⟨x, e1, e2⟩ := atI_some (xs := [a, b, c, d, e]) h (by simpa using h5)
  refine ⟨x, e1, ?_⟩
  have hm := List.mem_of_getElem? e2
  simp only [List.mem_cons, List.not_mem_nil, or_false] at hm
  rcases hm with rfl | rfl | rfl | rfl | rfl <;> assumption
theorem tree_ok (d : D2) (most far : Int) (m1 : 1 ≤ most) (m2 : most ≤ 1000) (f0 : 0 ≤ far) (f1 : far ≤ farB) :
    ∃ t d', m_law_tree (dk d) most far = .ok (t, (dk d')) ∧ TreeOk t ∧ (t.1.length : Int) ≤ most ∧ (∀ x ∈ t.1, -far ≤ x ∧ x ≤ far) ∧ ∀ x ∈ t.2, -far ≤ x.c ∧ x.c ≤ far := by
  unfold m_law_tree
  obtain ⟨r, d1, e1, r0, r1⟩ := take_small d most (by omega) (by omega)
  rw [bind_ok e1]
  show ∃ t d', (m_law_order (dk d1) ((1 : Int) + r) >>= _) = _ ∧ _
  obtain ⟨o, d2, e2, po⟩ := order_ok d1 (1 + r) (by omega) (by omega)
  rw [bind_ok e2]
  obtain ⟨kd, d3, e3, k0, k5⟩ := take_small d2 5 (by decide) (by decide)
  show ∃ t d', (m_law_take (dk d2) 5 >>= _) = _ ∧ _
  rw [bind_ok e3, chk_b (show okR 1 by decide), chk_b (show okR (1 + r) from ⟨by omega, by omega⟩)]
  have olen : o.length = (1 + r).toNat := by
    have := po.length_eq
    rw [rangeL_length] at this
    omega
  have ond : o.Nodup := po.nodup_iff.mpr (rangeL_nodup _ _)
  obtain ⟨st, e4, h4⟩ := loopN_run (f := fun (y47 : Int) (st60 : (List Int) × (List (T3 Int Int Int))) =>
      m_law_take st60.1 y47 >>= fun r70 =>
      m_law_take r70.2 (3 : Int) >>= fun r79 =>
      m_law_take r79.2 y47 >>= fun r88 =>
      opt (atI ([r70.1, (y47 - (1 : Int)), (0 : Int), (if ((y47 - (1 : Int)) - r79.1) > (0 : Int) then ((y47 - (1 : Int)) - r79.1) else (0 : Int)), r88.1]) kd) >>= fun y110 =>
      opt (atI o y47) >>= fun y120 =>
      opt (atI o y110) >>= fun y130 =>
      opt (atI (sortT ([y120, y130])) (0 : Int)) >>= fun y161 =>
      opt (atI (sortT ([y120, y130])) (1 : Int)) >>= fun y171 =>
      m_law_number r88.2 far >>= fun r176 =>
      appL st60.2 (T3.mk y161 y171 r176.1) >>= fun _ =>
      (.ok (r176.2, (st60.2 ++ [(T3.mk y161 y171 r176.1)])) : M _)) (all := rangeL (1 : Int) ((1 : Int) + r)) (x := ((dk d3), []))
    (fun pre st => (∃ d', st.1 = (dk d')) ∧ Grown (o.take (pre.length + 1)) st.2 ∧ ∀ x ∈ st.2, -far ≤ x.c ∧ x.c ≤ far)
    ⟨⟨d3, rfl⟩, by
      cases o with
      | nil => simp at olen; omega
      | cons p o => exact Grown.one p, fun _ h => nomatch h⟩
    fun pre y post st ea ⟨⟨d', hd⟩, hg, hc⟩ => by
      obtain ⟨ds, ts⟩ := st
      have hd : ds = (dk d') := hd
      subst hd
      have hg : Grown (o.take (pre.length + 1)) ts := hg
      have hc : ∀ x ∈ ts, -far ≤ x.c ∧ x.c ≤ far := hc
      -- the turn's number
      have hy : y = 1 + (pre.length : Int) ∧ pre.length < r.toNat := by
        have hl := congrArg List.length ea
        rw [rangeL_length, List.length_append, List.length_cons] at hl
        have hg2 : (rangeL 1 (1 + r))[pre.length]? = some y := by rw [ea]; simp
        unfold rangeL at hg2
        rw [List.getElem?_map, List.getElem?_range (by omega)] at hg2
        exact ⟨(Option.some.inj hg2).symm, by omega⟩
      obtain ⟨hy, hpl⟩ := hy
      obtain ⟨q1, d4, a1, b1, c1⟩ := take_small d' y (by omega) (by omega)
      obtain ⟨q2, d5, a2, b2, c2⟩ := take_small d4 3 (by decide) (by decide)
      obtain ⟨q3, d6, a3, b3, c3⟩ := take_small d5 y (by omega) (by omega)
      obtain ⟨at_, a4, b4, c4⟩ := at5 q1 (y - 1) 0 (if (y - 1) - q2 > 0 then (y - 1) - q2 else 0) q3 kd k0 k5 (fun x => 0 ≤ x ∧ x < y) ⟨b1, c1⟩ (by omega) (by omega) (by split <;> omega) ⟨b3, c3⟩
      obtain ⟨p, a5, b5⟩ := atI_some (xs := o) (j := y) (by omega) (by omega)
      obtain ⟨q, a6, b6⟩ := atI_some (xs := o) (j := at_) b4 (by omega)
      obtain ⟨c, d7, a7, b7⟩ := number_ok d6 far f0 f1
      have hq : q ∈ o.take (pre.length + 1) := by
        refine List.mem_iff_getElem?.mpr ⟨at_.toNat, ?_⟩
        rw [List.getElem?_take_of_lt (by omega)]
        exact b6
      have hp : p ∉ o.take (pre.length + 1) := fun hm => by
        obtain ⟨j, hj⟩ := List.mem_iff_getElem?.mp hm
        rw [List.getElem?_take] at hj
        split at hj
        · have := nd_ix ond hj b5
          omega
        · cases hj
      have hpq : p ≠ q := fun e => hp (e ▸ hq)
      have hs : sortT [p, q] = [(tieOf p q c).a, (tieOf p q c).b] := by
        rw [sort2]
        unfold tieOf
        by_cases hh : p ≤ q
        · rw [if_pos hh, if_pos hh]
        · rw [if_neg hh, if_neg hh]
      have hcc : (tieOf p q c).c = c := (tieOf_lt hpq).2.2
      have et : T3.mk (tieOf p q c).a (tieOf p q c).b c = tieOf p q c := PySem.W.T3.same rfl rfl hcc.symm
      have hlt : ts.length < 16777216 := by
        have := hg.len
        rw [List.length_take] at this
        omega
      refine ⟨((dk d7), ts ++ [tieOf p q c]), ?_, ⟨d7, rfl⟩, ?_, fun x hx => ?_⟩
      · show (m_law_take (dk d') y >>= _) = _
        rw [bind_ok a1]
        show (m_law_take (dk d4) 3 >>= _) = _
        rw [bind_ok a2]
        show (m_law_take (dk d5) y >>= _) = _
        rw [bind_ok a3]
        show (opt (atI [q1, y - 1, 0, (if (y - 1) - q2 > 0 then (y - 1) - q2 else 0), q3] kd) >>= _) = _
        rw [opt_b a4, opt_b a5, opt_b a6, hs]
        rw [opt_b (show L2.atI [(tieOf p q c).a, (tieOf p q c).b] (0 : Int) = some (tieOf p q c).a from rfl), opt_b (show L2.atI [(tieOf p q c).a, (tieOf p q c).b] (1 : Int) = some (tieOf p q c).b from rfl)]
        show (m_law_number (dk d6) far >>= _) = _
        rw [bind_ok a7]
        show (appL ts (T3.mk (tieOf p q c).a (tieOf p q c).b c) >>= _) = _
        rw [bind_ok (appL_ok hlt)]
        show (Except.ok ((dk d7), ts ++ [T3.mk (tieOf p q c).a (tieOf p q c).b c]) : M _) = _
        rw [et]
      · have e5 : o.take ((pre ++ [y]).length + 1) = o.take (pre.length + 1) ++ [p] := by
          rw [List.length_append]
          show o.take (pre.length + 1 + 1) = _
          rw [List.take_succ]
          have e6 : y.toNat = pre.length + 1 := by omega
          rw [e6] at b5
          rw [b5]
          rfl
        rw [e5]
        exact Grown.more q p c hg hq hp
      · rcases List.mem_append.mp hx with hx | hx
        · exact hc x hx
        · rw [List.mem_singleton.mp hx, hcc]
          exact b7
  obtain ⟨ds, ts⟩ := st
  obtain ⟨⟨d8, hd⟩, hg, hc⟩ := h4
  have hd : ds = (dk d8) := hd
  subst hd
  have hg : Grown (o.take ((rangeL 1 (1 + r)).length + 1)) ts := hg
  have hc : ∀ x ∈ ts, -far ≤ x.c ∧ x.c ≤ far := hc
  rw [rangeL_length] at hg
  have e5 : o.take ((1 + r - 1).toNat + 1) = o := List.take_of_length_le (by omega)
  rw [e5] at hg
  show ∃ t d', (loopN _ (rangeL 1 (1 + r)) ((dk d3), []) >>= _) = _ ∧ _
  rw [bind_ok e4, chk_b (show okR (1 + r) from ⟨by omega, by omega⟩)]
  obtain ⟨ws, d9, e6, w1, w2⟩ := nums_ok far f0 f1 (items := rangeL 0 (1 + r)) (by rw [rangeL_length]; omega) d8
  show ∃ t d', (compS _ (rangeL 0 (1 + r)) (dk d8) >>= _) = _ ∧ _
  rw [bind_ok e6]
  rw [rangeL_length] at w1
  have hlen : ((1 + r).toNat : Int) = 1 + r := by omega
  refine ⟨(ws, sortT ts), d9, rfl, ⟨⟨o, ts, hg, ?_, rfl⟩⟩, ?_, w2, fun x hx => hc x (sortT_mem.mp hx)⟩
  · show o.Perm (rangeL 0 (ws.length : Int))
    have : (ws.length : Int) = 1 + r := by omega
    rw [this]
    exact po
  · show (ws.length : Int) ≤ most
    omega

theorem rangeL_len0 (n : Nat) : (rangeL 0 (n : Int)).length = n := by rw [rangeL_length]; omega

theorem cut10 (ns : List Int) (k : Nat) : (cutL ns none (some (k : Int))).length ≤ ns.length := by
  unfold cutL
  rw [List.length_take, List.length_drop]
  omega
theorem at4 (k : Int) (h : 0 ≤ k) (h4 : k < 4) : ∃ x, L2.atI [(10 : Int), 10, 10, 40] k = some x ∧ (x = 10 ∨ x = 40) := by
  obtain ⟨x, e1, e2⟩ := atI_some (xs := [(10 : Int), 10, 10, 40]) h (by simpa using h4)
  refine ⟨x, e1, ?_⟩
  have hm := List.mem_of_getElem? e2
  simp only [List.mem_cons, List.not_mem_nil, or_false] at hm
  omega

theorem dPut_new {κ β : Type} [DecidableEq κ] {xs : List (κ × β)} {k : κ} {y : β} (h : ∀ p ∈ xs, p.1 ≠ k) : dPut xs k y = xs ++ [(k, y)] := by
  unfold dPut
  rw [if_neg]
  intro z
  obtain ⟨p, hp, e⟩ := List.any_eq_true.mp z
  exact h p hp (of_decide_eq_true e)

theorem comp2 {i c : Type} {f : i → Unit → M (Option c × Unit)} {a b : i} {va vb : c} (ha : f a () = .ok (some va, ())) (hb : f b () = .ok (some vb, ())) : compS f [a, b] () = .ok ([va, vb], ()) := by
  unfold compS
  rw [chk_b (show [a, b].length < 16777216 by show 2 < 16777216; decide)]
  show (nox (f a ()) >>= _) = _
  rw [ha]
  show (nox (f b ()) >>= _) = _
  rw [hb]
  rfl
theorem s_no : ¬ ("own" : Str) = ("number" : Str) := by decide +kernel
theorem s_nt : ¬ ("tie" : Str) = ("number" : Str) := by decide +kernel
theorem s_ns : ¬ ("so" : Str) = ("number" : Str) := by decide +kernel
theorem s_nm : ¬ ("more" : Str) = ("number" : Str) := by decide +kernel
theorem s_to : ¬ ("tie" : Str) = ("own" : Str) := by decide +kernel
theorem s_so : ¬ ("so" : Str) = ("own" : Str) := by decide +kernel
theorem s_mo : ¬ ("more" : Str) = ("own" : Str) := by decide +kernel
theorem s_st : ¬ ("so" : Str) = ("tie" : Str) := by decide +kernel
theorem s_mt : ¬ ("more" : Str) = ("tie" : Str) := by decide +kernel
theorem s_ms : ¬ ("more" : Str) = ("so" : Str) := by decide +kernel
section
variable {own tie : Int} {so more : List Int}
def OpW (w : Str) : Prop := w = "plus" ∨ w = "less" ∨ w = "times" ∨ w = "most" ∨ w = "least"
theorem op_sum {d : Nat} {w : Str} {a b : Sm} {va vb : Int} (hw : OpW w) (ha : m_sum_at d a own tie so more = .ok va) (hb : m_sum_at d b own tie so more = .ok vb) :
    m_sum_at (d + 1) (.two w a b) own tie so more = (if w = ("plus" : Str) then .ok (va + vb) else if w = ("less" : Str) then .ok (va - vb) else if w = ("times" : Str) then (chk (CMulW va vb) >>= fun _ => .ok (va * vb)) else if w = ("most" : Str) then .ok (if vb > va then vb else va) else .ok (if vb < va then vb else va)) := by
  have h1 : ¬ w = ("number" : Str) ∧ ¬ w = ("own" : Str) ∧ ¬ w = ("tie" : Str) ∧ ¬ w = ("so" : Str) ∧ ¬ w = ("more" : Str) := by
    rcases hw with e | e | e | e | e <;> subst e <;> decide +kernel
  unfold m_sum_at
  rw [if_neg (show ¬ Sm.word (.two w a b) = _ from h1.1), if_neg (show ¬ Sm.word (.two w a b) = _ from h1.2.1), if_neg (show ¬ Sm.word (.two w a b) = _ from h1.2.2.1), if_neg (show ¬ Sm.word (.two w a b) = _ from h1.2.2.2.1), if_neg (show ¬ Sm.word (.two w a b) = _ from h1.2.2.2.2)]
  rw [opt_b (show Sm.two? (.two w a b) = some (a, b) from rfl)]
  rw [bind_ok (comp2 (va := va) (vb := vb) (by show (m_sum_at d a own tie so more >>= _) = _; rw [bind_ok ha]) (by show (m_sum_at d b own tie so more >>= _) = _; rw [bind_ok hb]))]
  rfl
theorem op_val {d : Nat} {w : Str} {a b : Sm} {va vb : Int} {kn : List (Str × IL)} (hw : OpW w) (ha : m_law_value d a kn = .ok va) (hb : m_law_value d b kn = .ok vb) :
    m_law_value (d + 1) (.two w a b) kn = (if w = ("times" : Str) then (chk (CMulW va vb) >>= fun _ => .ok (va * vb)) else if w ∈ ([("plus" : Str), "less"] : List Str) then (opt (atI [(1 : Int), -1] (if (decide (w = ("less" : Str))) = true then (1 : Int) else 0)) >>= fun y => chk (CMulW y vb) >>= fun _ => .ok (va + y * vb)) else (opt (atI (sortT [va, vb]) (if (decide (w = ("most" : Str))) = true then (1 : Int) else 0)) >>= fun y => .ok y)) := by
  have h1 : ¬ w = ("number" : Str) ∧ ¬ w ∈ ([("own" : Str), "tie"] : List Str) ∧ ¬ w ∈ ([("so" : Str), "more"] : List Str) := by
    rcases hw with e | e | e | e | e <;> subst e <;> decide +kernel
  unfold m_law_value
  rw [if_neg (show ¬ Sm.word (.two w a b) = _ from h1.1), if_neg (show ¬ Sm.word (.two w a b) ∈ ([("own" : Str), "tie"] : List Str) from h1.2.1), if_neg (show ¬ Sm.word (.two w a b) ∈ ([("so" : Str), "more"] : List Str) from h1.2.2)]
  rw [opt_b (show Sm.two? (.two w a b) = some (a, b) from rfl)]
  rw [bind_ok (comp2 (va := va) (vb := vb) (by show (m_law_value d a kn >>= _) = _; rw [bind_ok ha]) (by show (m_law_value d b kn >>= _) = _; rw [bind_ok hb]))]
  rfl
end
theorem words_at {ws : List Str} (h : ∀ w ∈ ws, OpW w) {k : Int} (k0 : 0 ≤ k) (k1 : k < ws.length) : ∃ w, L2.atI ws k = some w ∧ OpW w := by
  obtain ⟨w, e1, e2⟩ := atI_some k0 k1
  exact ⟨w, e1, h w (List.mem_of_getElem? e2)⟩

/-! ### drawn sums and rules -/
def LeafIn (ws : List Str) (many : Int) (x : Sm) : Prop := (∃ n : Int, x = .num "number" n ∧ n.natAbs < 100) ∨ (x = .nam "own" ∧ ("own" : Str) ∈ ws) ∨ (x = .nam "tie" ∧ ("tie" : Str) ∈ ws) ∨ (∃ k : Int, x = .num "so" k ∧ (0 ≤ k ∧ k < many) ∧ ("so" : Str) ∈ ws) ∨ ∃ k : Int, x = .num "more" k ∧ (0 ≤ k ∧ k < many) ∧ ("more" : Str) ∈ ws
/-- the bits of a leaf's worth -/
def lb (S M : Nat) (x : Sm) : Nat := if x.word = ("so" : Str) then S else if x.word = ("more" : Str) then M else 100
def Op4 (w : Str) : Prop := w = "plus" ∨ w = "less" ∨ w = "most" ∨ w = "least"
def Good2 (ws : List Str) (many : Int) : Nat → Sm → Prop
  | 0, _ => False
  | d + 1, x => LeafIn ws many x ∨ (∃ a b, x = .two "times" a b ∧ LeafIn ws many a ∧ LeafIn ws many b ∧ ∀ S M, lb S M a + lb S M b ≤ S + M + 200) ∨ ∃ w a b, x = .two w a b ∧ Op4 w ∧ Good2 ws many d a ∧ Good2 ws many d b
def four : List Str := ["own", "tie", "so", "more"]
theorem LeafIn.sub {ws ws' : List Str} {many : Int} {x : Sm} (h : LeafIn ws many x) (s : ∀ w ∈ ws, w ∈ ws') : LeafIn ws' many x := by
  rcases h with h | ⟨e, h⟩ | ⟨e, h⟩ | ⟨k, e, hk, h⟩ | ⟨k, e, hk, h⟩
  · exact .inl h
  · exact .inr (.inl ⟨e, s _ h⟩)
  · exact .inr (.inr (.inl ⟨e, s _ h⟩))
  · exact .inr (.inr (.inr (.inl ⟨k, e, hk, s _ h⟩)))
  · exact .inr (.inr (.inr (.inr ⟨k, e, hk, s _ h⟩)))
theorem leaf_ok2 (ws : List Str) (hw : ∀ w ∈ ws, w ∈ four) (hl : ws.length ≤ 4) (many : Int) (m1 : 1 ≤ many) (m2 : many ≤ 3) (d : D2) : ∃ x d', m_law_leaf (dk d) ws many = .ok (x, (dk d')) ∧ LeafIn ws many x := by
  obtain ⟨w, d1, e1, w0, w5⟩ := take_small d (1 + (ws.length : Int)) (by omega) (by omega)
  unfold m_law_leaf
  rw [bind_ok e1]
  show ∃ x d', (if w = 0 then _ else _) = _ ∧ _
  by_cases h0 : w = 0
  · rw [if_pos h0]
    obtain ⟨n, d2, e2, n0, n1⟩ := take_small d1 19 (by decide) (by decide)
    show ∃ x d', (m_law_take (dk d1) 19 >>= _) = _ ∧ _
    rw [bind_ok e2]
    exact ⟨_, d2, rfl, .inl ⟨n - 9, rfl, by omega⟩⟩
  · rw [if_neg h0]
    obtain ⟨z, a1, a2⟩ := atI_some (xs := ws) (j := w - 1) (by omega) (by omega)
    have hz := List.mem_of_getElem? a2
    rw [opt_b a1]
    by_cases hs : z ∈ ([("so" : Str), "more"] : List Str)
    · show ∃ x d', (if z ∈ ([("so" : Str), "more"] : List Str) then _ else _) = _ ∧ _
      rw [if_pos hs, opt_b a1]
      obtain ⟨k, d2, e2, k0, k1⟩ := take_small d1 many (by omega) (by omega)
      show ∃ x d', (m_law_take (dk d1) many >>= _) = _ ∧ _
      rw [bind_ok e2]
      rcases List.mem_cons.mp hs with e | e
      · subst e
        exact ⟨_, d2, rfl, .inr (.inr (.inr (.inl ⟨k, rfl, ⟨k0, k1⟩, hz⟩)))⟩
      · have e := List.mem_singleton.mp e
        subst e
        exact ⟨_, d2, rfl, .inr (.inr (.inr (.inr ⟨k, rfl, ⟨k0, k1⟩, hz⟩)))⟩
    · show ∃ x d', (if z ∈ ([("so" : Str), "more"] : List Str) then _ else _) = _ ∧ _
      rw [if_neg hs, opt_b a1]
      refine ⟨_, d1, rfl, ?_⟩
      have h4 := hw z hz
      unfold four at h4
      simp only [List.mem_cons, List.not_mem_nil, or_false] at h4 hs
      rcases h4 with e | e | e | e
      · subst e; exact .inr (.inl ⟨rfl, hz⟩)
      · subst e; exact .inr (.inr (.inl ⟨rfl, hz⟩))
      · exact (hs (.inl e)).elim
      · exact (hs (.inr e)).elim
theorem lb_le {ws : List Str} {many : Int} {x : Sm} (h : LeafIn ws many x) : (x.word = "so" ∧ ("so" : Str) ∈ ws) ∨ (x.word = "more" ∧ ("more" : Str) ∈ ws) ∨ (¬ x.word = ("so" : Str) ∧ ¬ x.word = ("more" : Str)) := by
  rcases h with ⟨n, e, _⟩ | ⟨e, h⟩ | ⟨e, h⟩ | ⟨k, e, hk, h⟩ | ⟨k, e, hk, h⟩
  · subst e; exact .inr (.inr ⟨fun z => s_ns z.symm, fun z => s_nm z.symm⟩)
  · subst e; exact .inr (.inr ⟨fun z => s_so z.symm, fun z => s_mo z.symm⟩)
  · subst e; exact .inr (.inr ⟨fun z => s_st z.symm, fun z => s_mt z.symm⟩)
  · subst e; exact .inl ⟨rfl, h⟩
  · subst e; exact .inr (.inl ⟨rfl, h⟩)
theorem pair_lb {ls rs : List Str} {many many' : Int} {a b : Sm} (ha : LeafIn ls many a) (hb : LeafIn rs many' b) (h1 : ¬ (("so" : Str) ∈ ls ∧ ("so" : Str) ∈ rs)) (h2 : ¬ (("more" : Str) ∈ ls ∧ ("more" : Str) ∈ rs)) (S M : Nat) : lb S M a + lb S M b ≤ S + M + 200 := by
  unfold lb
  rcases lb_le ha with ⟨e, m⟩ | ⟨e, m⟩ | ⟨e, e'⟩ <;> rcases lb_le hb with ⟨f, n⟩ | ⟨f, n⟩ | ⟨f, f'⟩
  · exact (h1 ⟨m, n⟩).elim
  · rw [if_pos e, f, if_neg s_ms, if_pos rfl]; omega
  · rw [if_pos e, if_neg f, if_neg f']; omega
  · rw [e, if_neg s_ms, if_pos rfl, if_pos f]; omega
  · exact (h2 ⟨m, n⟩).elim
  · rw [e, if_neg s_ms, if_pos rfl, if_neg f, if_neg f']; omega
  · rw [if_neg e, if_neg e', if_pos f]; omega
  · rw [if_neg e, if_neg e', f, if_neg s_ms, if_pos rfl]; omega
  · rw [if_neg e, if_neg e', if_neg f, if_neg f']; omega
theorem ops4 : ∀ w ∈ [("plus" : Str), "less", "most", "least", "plus"], Op4 w := by
  intro w hw
  unfold Op4
  simp only [List.mem_cons, List.not_mem_nil, or_false] at hw
  rcases hw with e | e | e | e | e <;> simp [e]
structure WsOk (ws : List Str) : Prop where
  four : ∀ w ∈ ws, w ∈ four
  len : ws.length ≤ 4
  cut : ∃ l r, cutL ws (some (-(1 : Int))) none = [r] ∧ cutL ws none (some (1 : Int)) = [l] ∧ l ∈ ws ∧ r ∈ ws ∧ ¬ (l = "so" ∧ r = "so") ∧ ¬ (l = "more" ∧ r = "more")
theorem sum_ok (ws : List Str) (W : WsOk ws) (many : Int) (m1 : 1 ≤ many) (m2 : many ≤ 3) (times : Bool) : ∀ (p n : Nat) (d : D2), p < n → ∃ x d', m_law_sum n (dk d) ws many (p : Int) times = .ok (x, (dk d')) ∧ Good2 ws many (p + 1) x
  | _, 0, _, h => absurd h (Nat.not_lt_zero _)
  | 0, n + 1, d, _ => by
    obtain ⟨w, d1, e1, w0, w9⟩ := take_small d 7 (by decide) (by decide)
    obtain ⟨x, d2, e2, hx⟩ := leaf_ok2 ws W.four W.len many m1 m2 d1
    unfold m_law_sum
    rw [bind_ok e1, if_pos (show ((0 : Nat) : Int) = 0 from rfl)]
    show ∃ x d', (m_law_leaf (dk d1) ws many >>= _) = _ ∧ _
    rw [bind_ok e2]
    exact ⟨x, d2, rfl, .inl hx⟩
  | p + 1, n + 1, d, h => by
    obtain ⟨w, d1, e1, w0, w9⟩ := take_small d 7 (by decide) (by decide)
    unfold m_law_sum
    rw [bind_ok e1, if_neg (by omega)]
    show ∃ x d', (if w < 2 then _ else _) = _ ∧ _
    by_cases hw : w < 2
    · rw [if_pos hw]
      obtain ⟨x, d2, e2, hx⟩ := leaf_ok2 ws W.four W.len many m1 m2 d1
      show ∃ x d', (m_law_leaf (dk d1) ws many >>= _) = _ ∧ _
      rw [bind_ok e2]
      exact ⟨x, d2, rfl, .inl hx⟩
    · rw [if_neg hw]
      obtain ⟨a, d2, e2, ha⟩ := sum_ok ws W many m1 m2 times p n d1 (by omega)
      obtain ⟨o, e3, e3'⟩ := atI_some (xs := [("plus" : Str), "less", "most", "least", "plus"]) (j := w - 2) (by omega) (by show w - 2 < ((5 : Nat) : Int); omega)
      have ho := ops4 o (List.mem_of_getElem? e3')
      obtain ⟨b, d3, e4, hb⟩ := sum_ok ws W many m1 m2 times p n d2 (by omega)
      have plain : ∃ x d', (m_law_sum n (dk d1) ws many (((p + 1 : Nat) : Int) - 1) times >>= fun r184 => opt (atI ([("plus" : Str), ("less" : Str), ("most" : Str), ("least" : Str), ("plus" : Str)]) (w - (2 : Int))) >>= fun y208 => m_law_sum n r184.2 ws many (((p + 1 : Nat) : Int) - 1) times >>= fun r213 => (.ok ((Sm.two (T3.mk y208 r184.1 r213.1).a (T3.mk y208 r184.1 r213.1).b (T3.mk y208 r184.1 r213.1).c), r213.2) : M _)) = .ok (x, (dk d')) ∧ Good2 ws many (p + 1 + 1) x := by
        rw [show (((p + 1 : Nat) : Int) - 1) = (p : Int) by omega]
        rw [bind_ok e2, opt_b e3]
        show ∃ x d', (m_law_sum n (dk d2) ws many (p : Int) times >>= _) = _ ∧ _
        rw [bind_ok e4]
        exact ⟨_, d3, rfl, .inr (.inr ⟨o, a, b, rfl, ho, ha, hb⟩)⟩
      show ∃ x d', (if w = 6 then _ else _) = _ ∧ _
      by_cases h6 : w = 6
      · rw [if_pos h6]
        cases times with
        | false =>
          rw [if_neg Bool.false_ne_true]
          exact plain
        | true =>
          rw [if_pos rfl]
          obtain ⟨l, r, c1, c2, hl, hr, n1, n2⟩ := W.cut
          have sub1 : ∀ (y : Str), y ∈ ws → ∀ z ∈ [y], z ∈ ws := fun y hy z hz => by rw [List.mem_singleton.mp hz]; exact hy
          obtain ⟨x1, f1, g1, q1⟩ := leaf_ok2 [r] (fun z hz => W.four z (sub1 r hr z hz)) (by simp) many m1 m2 d1
          obtain ⟨x2, f2, g2, q2⟩ := leaf_ok2 [] (fun _ h => nomatch h) (by simp) 1 (by omega) (by omega) f1
          obtain ⟨x3, f3, g3, q3⟩ := leaf_ok2 [l] (fun z hz => W.four z (sub1 l hl z hz)) (by simp) many m1 m2 f2
          obtain ⟨j, f4, g4, j0, j2⟩ := take_small f3 2 (by decide) (by decide)
          rw [c1, c2]
          show ∃ x d', (m_law_leaf (dk d1) [r] many >>= _) = _ ∧ _
          rw [bind_ok g1]
          show ∃ x d', (m_law_leaf (dk f1) [] 1 >>= _) = _ ∧ _
          rw [bind_ok g2]
          show ∃ x d', (m_law_leaf (dk f2) [l] many >>= _) = _ ∧ _
          rw [bind_ok g3]
          show ∃ x d', (m_law_take (dk f3) 2 >>= _) = _ ∧ _
          rw [bind_ok g4]
          have q2' : LeafIn [] many x2 := by
            rcases q2 with z | ⟨_, z⟩ | ⟨_, z⟩ | ⟨_, _, _, z⟩ | ⟨_, _, _, z⟩
            · exact .inl z
            all_goals cases z
          have hj : j = 0 ∨ j = 1 := by omega
          rcases hj with e | e
          · subst e
            refine ⟨_, f4, rfl, .inr (.inl ⟨x2, x1, rfl, q2'.sub (fun _ h => nomatch h), q1.sub (sub1 r hr), pair_lb q2' q1 (fun z => absurd z.1 List.not_mem_nil) (fun z => absurd z.1 List.not_mem_nil)⟩)⟩
          · subst e
            refine ⟨_, f4, rfl, .inr (.inl ⟨x3, x1, rfl, q3.sub (sub1 l hl), q1.sub (sub1 r hr), pair_lb q3 q1 (fun z => n1 ⟨(List.mem_singleton.mp z.1).symm, (List.mem_singleton.mp z.2).symm⟩) (fun z => n2 ⟨(List.mem_singleton.mp z.1).symm, (List.mem_singleton.mp z.2).symm⟩)⟩)⟩
      · rw [if_neg h6]
        exact plain

abbrev Rule := T4 (List Sm) (List Sm) (List Sm) Sm
def wsB : List Str := ["own"]
def wsO : List Str := ["more", "own", "tie"]
def wsJ : List Str := ["so", "own", "more"]
def wsT : List Str := ["so", "own"]
theorem okB : WsOk wsB := ⟨by decide +kernel, by decide +kernel, "own", "own", rfl, rfl, by decide +kernel, by decide +kernel, by decide +kernel, by decide +kernel⟩
theorem okO : WsOk wsO := ⟨by decide +kernel, by decide +kernel, "more", "tie", rfl, rfl, by decide +kernel, by decide +kernel, by decide +kernel, by decide +kernel⟩
theorem okJ : WsOk wsJ := ⟨by decide +kernel, by decide +kernel, "so", "more", rfl, rfl, by decide +kernel, by decide +kernel, by decide +kernel, by decide +kernel⟩
theorem okT : WsOk wsT := ⟨by decide +kernel, by decide +kernel, "so", "own", rfl, rfl, by decide +kernel, by decide +kernel, by decide +kernel, by decide +kernel⟩
structure RuleOk (r : Rule) (many : Int) : Prop where
  m1 : 1 ≤ many
  m2 : many ≤ 3
  la : (r.a.length : Int) = many
  lb : (r.b.length : Int) = many
  lc : (r.c.length : Int) = many
  ga : ∀ x ∈ r.a, Good2 wsB many 3 x
  gb : ∀ x ∈ r.b, Good2 wsO many 3 x
  gc : ∀ x ∈ r.c, Good2 wsJ many 3 x
  gd : Good2 wsT many 3 r.d
theorem sums_ok (ws : List Str) (W : WsOk ws) (many : Int) (m1 : 1 ≤ many) (m2 : many ≤ 3) (times : Bool) (d : D2) :
    ∃ xs d', compS (fun (y74 : Int) (st92 : (List Int)) =>
      m_law_sum 5 st92 ws many (2 : Int) times >>= fun r98 =>
      .ok (some r98.1, r98.2)) (rangeL 0 many) (dk d) = .ok (xs, (dk d')) ∧ (xs.length : Int) = many ∧ ∀ x ∈ xs, Good2 ws many 3 x := by
  obtain ⟨acc, st, e, ⟨d', hd⟩, h3, h4⟩ := compS_run (f := fun (y74 : Int) (st92 : (List Int)) =>
      m_law_sum 5 st92 ws many (2 : Int) times >>= fun r98 =>
      .ok (some r98.1, r98.2)) (all := rangeL 0 many) (by rw [rangeL_length]; omega)
    (fun pre acc st => (∃ d', st = (dk d')) ∧ acc.length = pre.length ∧ ∀ x ∈ acc, Good2 ws many 3 x) (x := (dk d)) ⟨⟨d, rfl⟩, rfl, fun _ h => nomatch h⟩ fun pre y post acc st _ ⟨⟨d', hd⟩, h3, h4⟩ => by
      subst hd
      obtain ⟨x, d2, e, hx⟩ := sum_ok ws W many m1 m2 times 2 5 d' (by decide)
      refine ⟨some x, (dk d2), by rw [bind_ok (show m_law_sum 5 (dk d') ws many (2 : Int) times = _ from e)], ⟨d2, rfl⟩, by rw [List.length_append, List.length_append, h3, List.length_singleton, List.length_singleton], fun z hz => ?_⟩
      rcases List.mem_append.mp hz with hz | hz
      · exact h4 z hz
      · rw [List.mem_singleton.mp hz]; exact hx
  subst hd
  rw [rangeL_length] at h3
  exact ⟨acc, d', e, by omega, h4⟩
theorem loop3 {i s : Type} {f : i → s → M s} {a b c : i} {x x1 x2 x3 : s} (h1 : f a x = .ok x1) (h2 : f b x1 = .ok x2) (h3 : f c x2 = .ok x3) : loopN f [a, b, c] x = .ok x3 := by
  show (f a x >>= _) = _
  rw [bind_ok h1]
  show (f b x1 >>= _) = _
  rw [bind_ok h2]
  show (f c x2 >>= _) = _
  rw [bind_ok h3]
  rfl
theorem rule_ok (d : D2) (times : Bool) : ∃ r d' many, m_law_rule (dk d) times = .ok (r, (dk d')) ∧ RuleOk r many := by
  obtain ⟨k, d1, e1, k0, k3⟩ := take_small d 3 (by decide) (by decide)
  have m1 : 1 ≤ 1 + k := by omega
  have m2 : 1 + k ≤ 3 := by omega
  obtain ⟨xa, d2, ea, la, ga⟩ := sums_ok wsB okB (1 + k) m1 m2 times d1
  obtain ⟨xb, d3, eb, lb, gb⟩ := sums_ok wsO okO (1 + k) m1 m2 times d2
  obtain ⟨xc, d4, ec, lc, gc⟩ := sums_ok wsJ okJ (1 + k) m1 m2 times d3
  obtain ⟨xd, d5, ed, gd⟩ := sum_ok wsT okT (1 + k) m1 m2 times 2 5 d4 (by decide)
  refine ⟨⟨xa, xb, xc, xd⟩, d5, 1 + k, ?_, ⟨m1, m2, la, lb, lc, ga, gb, gc, gd⟩⟩
  unfold m_law_rule
  rw [bind_ok e1]
  have ok : okR (1 + k) := ⟨by omega, by omega⟩
  rw [bind_ok (loop3 (x1 := ([xa], (dk d2))) (x2 := ([xa, xb], (dk d3))) (x3 := ([xa, xb, xc], (dk d4))) (by
      show (chk (okR (1 + k)) >>= _) = _
      rw [chk_b ok]
      exact (bind_ok ea _).trans rfl) (by
      show (chk (okR (1 + k)) >>= _) = _
      rw [chk_b ok]
      exact (bind_ok eb _).trans rfl) (by
      show (chk (okR (1 + k)) >>= _) = _
      rw [chk_b ok]
      exact (bind_ok ec _).trans rfl))]
  rw [opt_b (show L2.atI [xa, xb, xc] (0 : Int) = some xa from rfl), opt_b (show L2.atI [xa, xb, xc] (1 : Int) = some xb from rfl), opt_b (show L2.atI [xa, xb, xc] (2 : Int) = some xc from rfl)]
  show (m_law_sum 5 (dk d4) wsT (1 + k) (2 : Int) times >>= _) = _
  rw [bind_ok (show m_law_sum 5 (dk d4) wsT (1 + k) (2 : Int) times = _ from ed)]
theorem may_leaf {ws ws' : List Str} {many : Int} (s : ∀ w ∈ ws, w ∈ ws') (n : Nat) {x : Sm} (h : LeafIn ws many x) : m_may_stand (n + 1) x ⟨ws'⟩ many = .ok true := by
  unfold m_may_stand
  rcases h with ⟨k, e, _⟩ | ⟨e, h⟩ | ⟨e, h⟩ | ⟨k, e, hk, h⟩ | ⟨k, e, hk, h⟩
  · subst e
    rw [if_pos (show Sm.word (.num "number" k) = ("number" : Str) from rfl)]
  · subst e
    rw [if_neg (show ¬ Sm.word (.nam "own") = ("number" : Str) from s_no), if_pos (show Sm.word (.nam "own") ∈ ([("own" : Str), "tie"] : List Str) from List.mem_cons_self)]
    exact congrArg Except.ok (decide_eq_true (s _ h))
  · subst e
    rw [if_neg (show ¬ Sm.word (.nam "tie") = ("number" : Str) from s_nt), if_pos (show Sm.word (.nam "tie") ∈ ([("own" : Str), "tie"] : List Str) from List.mem_cons_of_mem _ List.mem_cons_self)]
    exact congrArg Except.ok (decide_eq_true (s _ h))
  · subst e
    rw [if_neg (show ¬ Sm.word (.num "so" k) = ("number" : Str) from s_ns), if_neg (show ¬ Sm.word (.num "so" k) ∈ ([("own" : Str), "tie"] : List Str) from fun z => by
      rcases List.mem_cons.mp z with z | z
      · exact s_so z
      · exact s_st (List.mem_singleton.mp z)), if_pos (show Sm.word (.num "so" k) ∈ ([("so" : Str), "more"] : List Str) from List.mem_cons_self), if_pos (show Sm.word (.num "so" k) ∈ ws' from s _ h)]
    rw [opt_b (show Sm.int? (.num "so" k) = some k from rfl), if_pos hk.1]
    exact congrArg Except.ok (decide_eq_true hk.2)
  · subst e
    rw [if_neg (show ¬ Sm.word (.num "more" k) = ("number" : Str) from s_nm), if_neg (show ¬ Sm.word (.num "more" k) ∈ ([("own" : Str), "tie"] : List Str) from fun z => by
      rcases List.mem_cons.mp z with z | z
      · exact s_mo z
      · exact s_mt (List.mem_singleton.mp z)), if_pos (show Sm.word (.num "more" k) ∈ ([("so" : Str), "more"] : List Str) from List.mem_cons_of_mem _ List.mem_cons_self), if_pos (show Sm.word (.num "more" k) ∈ ws' from s _ h)]
    rw [opt_b (show Sm.int? (.num "more" k) = some k from rfl), if_pos hk.1]
    exact congrArg Except.ok (decide_eq_true hk.2)
theorem may_two {ws' : List Str} {many : Int} {n : Nat} {w : Str} {a b : Sm} (hw : OpW w) (ha : m_may_stand n a ⟨ws'⟩ many = .ok true) (hb : m_may_stand n b ⟨ws'⟩ many = .ok true) : m_may_stand (n + 1) (.two w a b) ⟨ws'⟩ many = .ok true := by
  have h1 : ¬ w = ("number" : Str) ∧ ¬ w ∈ ([("own" : Str), "tie"] : List Str) ∧ ¬ w ∈ ([("so" : Str), "more"] : List Str) := by
    rcases hw with e | e | e | e | e <;> subst e <;> decide +kernel
  unfold m_may_stand
  rw [if_neg (show ¬ Sm.word (.two w a b) = _ from h1.1), if_neg (show ¬ Sm.word (.two w a b) ∈ ([("own" : Str), "tie"] : List Str) from h1.2.1), if_neg (show ¬ Sm.word (.two w a b) ∈ ([("so" : Str), "more"] : List Str) from h1.2.2)]
  rw [opt_b (show Sm.two? (.two w a b) = some (a, b) from rfl)]
  show (m_may_stand n a ⟨ws'⟩ many >>= _) = _
  rw [bind_ok ha, if_pos rfl, opt_b (show Sm.two? (.two w a b) = some (a, b) from rfl)]
  show (m_may_stand n b ⟨ws'⟩ many >>= _) = _
  rw [bind_ok hb]
theorem op4w {w : Str} (h : Op4 w) : OpW w := by
  rcases h with e | e | e | e
  · exact .inl e
  · exact .inr (.inl e)
  · exact .inr (.inr (.inr (.inl e)))
  · exact .inr (.inr (.inr (.inr e)))
theorem may_ok {ws ws' : List Str} {many : Int} (s : ∀ w ∈ ws, w ∈ ws') : ∀ (n d : Nat) (x : Sm), d + 1 ≤ n → Good2 ws many d x → m_may_stand n x ⟨ws'⟩ many = .ok true
  | 0, _, _, h, _ => absurd h (by omega)
  | _, 0, _, _, h => h.elim
  | n + 1, d + 1, x, hn, h => by
    rcases h with h | ⟨a, b, e, ha, hb, _⟩ | ⟨w, a, b, e, hw, ha, hb⟩
    · exact may_leaf s n h
    · subst e
      obtain ⟨n', rfl⟩ : ∃ n', n = n' + 1 := ⟨n - 1, by omega⟩
      exact may_two (.inr (.inr (.inl rfl))) (may_leaf s n' ha) (may_leaf s n' hb)
    · subst e
      exact may_two (op4w hw) (may_ok s n d a (by omega) ha) (may_ok s n d b (by omega) hb)
theorem is_rule_ok {r : Rule} {many : Int} (R : RuleOk r many) : m_is_rule r = .ok true := by
  have h1 := R.la
  have h2 := R.lb
  have h3 := R.lc
  have m1 := R.m1
  have m2 := R.m2
  unfold m_is_rule
  rw [if_pos (by omega), if_pos (by omega), if_neg (by omega), if_neg (by omega), h1]
  have one : ∀ (xs : List Sm) (ws ws' : List Str), xs.length < 16777216 → (∀ x ∈ xs, Good2 ws many 3 x) → (∀ w ∈ ws, w ∈ ws') →
      (compS (fun (y123 : Sm) (st140 : Unit) =>
        m_may_stand 60 y123 ⟨ws'⟩ many >>= fun r146 =>
        if r146 = true then (
        .ok (none, ()))
        else (
        .ok (some y123, ()))) xs () >>= fun q164 =>
        if q164.1 ≠ ([] : List Sm) then (
        .ok (.rt false))
        else (
        (.ok (.nx ()) : M (Fl Unit Bool)))) = .ok (.nx ()) := fun xs ws ws' hl hg hs => by
    rw [bind_ok (compS_pure (fun _ => none) hl fun y hy => by rw [bind_ok (may_ok hs 60 3 y (by decide) (hg y hy)), if_pos rfl])]
    rw [if_neg (by
      intro z
      refine z ?_
      show List.filterMap _ _ = []
      rw [List.filterMap_eq_nil_iff]
      exact fun _ _ => rfl)]
  rw [bind_ok (loopM_all fun y hy => by
    simp only [List.mem_cons, List.not_mem_nil, or_false] at hy
    rcases hy with e | e | e
    · subst e; exact one r.a wsB _ (by omega) R.ga (by decide +kernel)
    · subst e; exact one r.b wsO _ (by omega) R.gb (by decide +kernel)
    · subst e; exact one r.c wsJ _ (by omega) R.gc (by decide +kernel))]
  show (m_may_stand 60 r.d ⟨[("own" : Str), "so"]⟩ many >>= _) = _
  rw [bind_ok (may_ok (ws := wsT) (by decide +kernel) 60 3 r.d (by decide) R.gd)]

/-! ### sums of any words, and which of them may stand -/
def Lf (x : Sm) : Prop := (∃ n : Int, x = .num "number" n) ∨ x = .nam "own" ∨ x = .nam "tie" ∨ (∃ k : Int, x = .num "so" k) ∨ ∃ k : Int, x = .num "more" k
def Sh : Nat → Sm → Prop
  | 0, _ => False
  | d + 1, x => Lf x ∨ ∃ w a b, x = .two w a b ∧ OpW w ∧ Sh d a ∧ Sh d b
theorem sh_up : ∀ {d e : Nat} {x : Sm}, Sh d x → d ≤ e → Sh e x
  | 0, _, _, h, _ => h.elim
  | d + 1, 0, _, _, l => absurd l (by omega)
  | d + 1, e + 1, x, h, l => by
    rcases h with h | ⟨w, a, b, z, hw, ha, hb⟩
    · exact .inl h
    · exact .inr ⟨w, a, b, z, hw, sh_up ha (by omega), sh_up hb (by omega)⟩
theorem sh_good {ws : List Str} {many : Int} : ∀ {d : Nat} {x : Sm}, Good2 ws many d x → Sh (d + 1) x
  | 0, _, h => h.elim
  | d + 1, x, h => by
    have leaf : ∀ {x : Sm}, LeafIn ws many x → Lf x := fun {x} h => by
      rcases h with ⟨n, e, _⟩ | ⟨e, _⟩ | ⟨e, _⟩ | ⟨k, e, _⟩ | ⟨k, e, _⟩
      · exact .inl ⟨n, e⟩
      · exact .inr (.inl e)
      · exact .inr (.inr (.inl e))
      · exact .inr (.inr (.inr (.inl ⟨k, e⟩)))
      · exact .inr (.inr (.inr (.inr ⟨k, e⟩)))
    rcases h with h | ⟨a, b, e, ha, hb, _⟩ | ⟨w, a, b, e, hw, ha, hb⟩
    · exact .inl (leaf h)
    · exact .inr ⟨_, a, b, e, .inr (.inr (.inl rfl)), .inl (leaf ha), .inl (leaf hb)⟩
    · exact .inr ⟨w, a, b, e, op4w hw, sh_good ha, sh_good hb⟩
/-- whether a leaf may stand -/
def lfOk (may : List Str) (many : Int) : Sm → Bool
  | .num w k => decide (w = ("number" : Str)) || (decide (w ∈ may) && decide (0 ≤ k) && decide (k < many))
  | .nam w => decide (w ∈ may)
  | .two _ _ _ => false
def mayB (may : List Str) (many : Int) : Sm → Bool
  | .two _ a b => mayB may many a && mayB may many b
  | .num w k => lfOk may many (.num w k)
  | .nam w => lfOk may many (.nam w)
theorem mayB_num {may : List Str} {many : Int} {w : Str} {k : Int} : mayB may many (.num w k) = (decide (w = ("number" : Str)) || (decide (w ∈ may) && decide (0 ≤ k) && decide (k < many))) := rfl
theorem may_lf {may : List Str} {many : Int} {x : Sm} (h : Lf x) (n : Nat) : m_may_stand (n + 1) x ⟨may⟩ many = .ok (mayB may many x) := by
  unfold m_may_stand
  rcases h with ⟨k, e⟩ | e | e | ⟨k, e⟩ | ⟨k, e⟩
  · subst e
    rw [if_pos (show Sm.word (.num "number" k) = ("number" : Str) from rfl)]
    rw [mayB_num, decide_eq_true rfl, Bool.true_or]
  · subst e
    rw [if_neg (show ¬ Sm.word (.nam "own") = ("number" : Str) from s_no), if_pos (show Sm.word (.nam "own") ∈ ([("own" : Str), "tie"] : List Str) from List.mem_cons_self)]
    rfl
  · subst e
    rw [if_neg (show ¬ Sm.word (.nam "tie") = ("number" : Str) from s_nt), if_pos (show Sm.word (.nam "tie") ∈ ([("own" : Str), "tie"] : List Str) from List.mem_cons_of_mem _ List.mem_cons_self)]
    rfl
  · subst e
    rw [if_neg (show ¬ Sm.word (.num "so" k) = ("number" : Str) from s_ns), if_neg (show ¬ Sm.word (.num "so" k) ∈ ([("own" : Str), "tie"] : List Str) from fun z => by
      rcases List.mem_cons.mp z with z | z
      · exact s_so z
      · exact s_st (List.mem_singleton.mp z)), if_pos (show Sm.word (.num "so" k) ∈ ([("so" : Str), "more"] : List Str) from List.mem_cons_self)]
    have e : mayB may many (.num "so" k) = (decide (("so" : Str) ∈ may) && decide (0 ≤ k) && decide (k < many)) := by
      rw [mayB_num, decide_eq_false s_ns, Bool.false_or]
    rw [e]
    by_cases hm : ("so" : Str) ∈ may
    · rw [if_pos (show Sm.word (.num "so" k) ∈ may from hm), opt_b (show Sm.int? (.num "so" k) = some k from rfl), decide_eq_true hm, Bool.true_and]
      by_cases h0 : 0 ≤ k
      · rw [if_pos h0, decide_eq_true h0, Bool.true_and]
      · rw [if_neg h0, decide_eq_false h0, Bool.false_and]
    · rw [if_neg (show ¬ Sm.word (.num "so" k) ∈ may from hm), decide_eq_false hm, Bool.false_and, Bool.false_and]
  · subst e
    rw [if_neg (show ¬ Sm.word (.num "more" k) = ("number" : Str) from s_nm), if_neg (show ¬ Sm.word (.num "more" k) ∈ ([("own" : Str), "tie"] : List Str) from fun z => by
      rcases List.mem_cons.mp z with z | z
      · exact s_mo z
      · exact s_mt (List.mem_singleton.mp z)), if_pos (show Sm.word (.num "more" k) ∈ ([("so" : Str), "more"] : List Str) from List.mem_cons_of_mem _ List.mem_cons_self)]
    have e : mayB may many (.num "more" k) = (decide (("more" : Str) ∈ may) && decide (0 ≤ k) && decide (k < many)) := by
      rw [mayB_num, decide_eq_false s_nm, Bool.false_or]
    rw [e]
    by_cases hm : ("more" : Str) ∈ may
    · rw [if_pos (show Sm.word (.num "more" k) ∈ may from hm), opt_b (show Sm.int? (.num "more" k) = some k from rfl), decide_eq_true hm, Bool.true_and]
      by_cases h0 : 0 ≤ k
      · rw [if_pos h0, decide_eq_true h0, Bool.true_and]
      · rw [if_neg h0, decide_eq_false h0, Bool.false_and]
    · rw [if_neg (show ¬ Sm.word (.num "more" k) ∈ may from hm), decide_eq_false hm, Bool.false_and, Bool.false_and]
theorem may_val {may : List Str} {many : Int} : ∀ (n d : Nat) (x : Sm), d ≤ n → Sh d x → m_may_stand n x ⟨may⟩ many = .ok (mayB may many x)
  | _, 0, _, _, h => h.elim
  | 0, d + 1, _, l, _ => absurd l (by omega)
  | n + 1, d + 1, x, l, h => by
    rcases h with h | ⟨w, a, b, e, hw, ha, hb⟩
    · exact may_lf h n
    · subst e
      have h1 : ¬ w = ("number" : Str) ∧ ¬ w ∈ ([("own" : Str), "tie"] : List Str) ∧ ¬ w ∈ ([("so" : Str), "more"] : List Str) := by
        rcases hw with e | e | e | e | e <;> subst e <;> decide +kernel
      unfold m_may_stand
      rw [if_neg (show ¬ Sm.word (.two w a b) = _ from h1.1), if_neg (show ¬ Sm.word (.two w a b) ∈ ([("own" : Str), "tie"] : List Str) from h1.2.1), if_neg (show ¬ Sm.word (.two w a b) ∈ ([("so" : Str), "more"] : List Str) from h1.2.2)]
      rw [opt_b (show Sm.two? (.two w a b) = some (a, b) from rfl)]
      show (m_may_stand n a ⟨may⟩ many >>= _) = _
      rw [bind_ok (may_val n d a (by omega) ha)]
      show _ = Except.ok (mayB may many a && mayB may many b)
      by_cases z : mayB may many a = true
      · rw [if_pos z, opt_b (show Sm.two? (.two w a b) = some (a, b) from rfl)]
        show (m_may_stand n b ⟨may⟩ many >>= _) = _
        rw [bind_ok (may_val n d b (by omega) hb), z, Bool.true_and]
      · rw [if_neg z, Bool.eq_false_iff.mpr z, Bool.false_and]
/-- loops that end where a test fails -/
theorem loopM_test {i r : Type} {f : i → Unit → M (Fl Unit r)} {z : r} (p : i → Bool) : ∀ {xs : List i}, (∀ y ∈ xs, f y () = if p y = true then .ok (.nx ()) else .ok (.rt z)) → loopM f xs () = if xs.all p = true then .ok (.nx ()) else .ok (.rt z)
  | [], _ => rfl
  | x :: xs, h => by
    have h1 := h x List.mem_cons_self
    have h2 := loopM_test p (fun y hy => h y (List.mem_cons_of_mem _ hy))
    show (f x () >>= _) = _
    rw [h1, List.all_cons]
    by_cases e : p x = true
    · rw [if_pos e, e, Bool.true_and, ← h2]
      rfl
    · rw [if_neg e, Bool.eq_false_iff.mpr e, Bool.false_and, if_neg Bool.false_ne_true]
      rfl
structure RSh (r : Rule) : Prop where
  la : r.a.length ≤ 1000
  lb : r.b.length ≤ 1000
  lc : r.c.length ≤ 1000
  sa : ∀ x ∈ r.a, Sh 10 x
  sb : ∀ x ∈ r.b, Sh 10 x
  sc : ∀ x ∈ r.c, Sh 10 x
  sd : Sh 10 r.d
abbrev mB : List Str := ["own"]
abbrev mO : List Str := ["own", "tie", "more"]
abbrev mJ : List Str := ["own", "so", "more"]
abbrev mT : List Str := ["own", "so"]
def sumsB (r : Rule) : Bool := r.a.all (mayB mB r.a.length) && r.b.all (mayB mO r.a.length) && r.c.all (mayB mJ r.a.length) && mayB mT r.a.length r.d
def ruleB (r : Rule) : Bool := decide (1 ≤ r.a.length ∧ r.a.length ≤ 3 ∧ r.b.length = r.a.length ∧ r.c.length = r.a.length) && sumsB r
theorem is_rule_val {r : Rule} (R : RSh r) : m_is_rule r = .ok (ruleB r) := by
  have h1 := R.la
  have h2 := R.lb
  have h3 := R.lc
  unfold m_is_rule ruleB
  by_cases c1 : (1 : Int) ≤ (r.a.length : Int)
  · rw [if_pos c1]
    by_cases c2 : (r.a.length : Int) ≤ 3
    · rw [if_pos c2]
      by_cases c3 : (r.b.length : Int) = (r.a.length : Int)
      · rw [if_neg (fun z => z c3)]
        by_cases c4 : (r.c.length : Int) = (r.a.length : Int)
        · rw [if_neg (fun z => z c4), decide_eq_true (show 1 ≤ r.a.length ∧ r.a.length ≤ 3 ∧ r.b.length = r.a.length ∧ r.c.length = r.a.length by omega), Bool.true_and]
          have one : ∀ (xs : List Sm) (may : List Str), xs.length < 16777216 → (∀ x ∈ xs, Sh 10 x) →
              (compS (fun (y123 : Sm) (st140 : Unit) =>
                m_may_stand 60 y123 ⟨may⟩ (r.a.length : Int) >>= fun r146 =>
                if r146 = true then (
                .ok (none, ()))
                else (
                .ok (some y123, ()))) xs () >>= fun q164 =>
                if q164.1 ≠ ([] : List Sm) then (
                .ok (.rt false))
                else (
                (.ok (.nx ()) : M (Fl Unit Bool)))) = if xs.all (mayB may (r.a.length : Int)) = true then .ok (.nx ()) else .ok (.rt false) := fun xs may hl hs => by
            rw [bind_ok (compS_pure (fun y => if mayB may (r.a.length : Int) y = true then none else some y) hl fun y hy => by
              rw [bind_ok (may_val 60 10 y (by decide) (hs y hy))]
              by_cases z : mayB may (r.a.length : Int) y = true
              · rw [if_pos z, if_pos z]
              · rw [if_neg z, if_neg z])]
            by_cases z : xs.all (mayB may (r.a.length : Int)) = true
            · rw [if_pos z, if_neg]
              intro q
              refine q ?_
              show List.filterMap _ _ = []
              rw [List.filterMap_eq_nil_iff]
              exact fun y hy => if_pos (List.all_eq_true.mp z y hy)
            · rw [if_neg z, if_pos]
              intro q
              have q : List.filterMap _ xs = [] := q
              rw [List.filterMap_eq_nil_iff] at q
              refine z (List.all_eq_true.mpr fun y hy => ?_)
              have := q y hy
              by_cases u : mayB may (r.a.length : Int) y = true
              · exact u
              · rw [if_neg u] at this; exact nomatch this
          rw [loopM_test (z := false) (fun (y : List Sm × Tp Str) => y.1.all (mayB y.2.l (r.a.length : Int))) (fun y hy => by
            simp only [List.mem_cons, List.not_mem_nil, or_false] at hy
            rcases hy with e | e | e
            · subst e; exact one r.a mB (by omega) R.sa
            · subst e; exact one r.b mO (by omega) R.sb
            · subst e; exact one r.c mJ (by omega) R.sc)]
          have ea : (([(r.a, Tp.mk mB), (r.b, Tp.mk mO), (r.c, Tp.mk mJ)] : List (List Sm × Tp Str)).all (fun (y : List Sm × Tp Str) => y.1.all (mayB y.2.l (r.a.length : Int)))) = (r.a.all (mayB mB r.a.length) && r.b.all (mayB mO r.a.length) && r.c.all (mayB mJ r.a.length)) := by
            show (_ && (_ && (_ && true))) = _
            rw [Bool.and_true, ← Bool.and_assoc]
          refine (congrArg (· >>= _) (congrArg (fun (c : Bool) => if c = true then (.ok (.nx ()) : M (Fl Unit Bool)) else .ok (.rt false)) ea)).trans ?_
          unfold sumsB
          by_cases z : (r.a.all (mayB mB r.a.length) && r.b.all (mayB mO r.a.length) && r.c.all (mayB mJ r.a.length)) = true
          · rw [z, Bool.true_and]
            show (m_may_stand 60 r.d ⟨mT⟩ (r.a.length : Int) >>= _) = _
            rw [bind_ok (may_val 60 10 r.d (by decide) R.sd)]
          · rw [Bool.eq_false_iff.mpr z, Bool.false_and]
            rfl
        · rw [if_pos c4, decide_eq_false (by omega), Bool.false_and]
      · rw [if_pos c3, decide_eq_false (by omega), Bool.false_and]
    · rw [if_neg c2, decide_eq_false (by omega), Bool.false_and]
  · rw [if_neg c1, decide_eq_false (by omega), Bool.false_and]

/-! ### rules that are none -/
theorem askK {a : Type} {L : List String} {m : M Unit} {k0 : M a} {k1 : String → M a} {n : String} (h : m = raise n) (hn : n ∈ L) : tryK L m k0 k1 = k1 n := by
  rw [h]
  exact if_pos hn
theorem rule_rsh {r : Rule} {many : Int} (R : RuleOk r many) : RSh r :=
  ⟨by have := R.la; have := R.m2; omega, by have := R.lb; have := R.m2; omega, by have := R.lc; have := R.m2; omega, fun x h => sh_up (sh_good (R.ga x h)) (by decide), fun x h => sh_up (sh_good (R.gb x h)) (by decide), fun x h => sh_up (sh_good (R.gc x h)) (by decide), sh_up (sh_good R.gd) (by decide)⟩
theorem at3 {a b c : List Sm} : L2.atI [a, b, c] (0 : Int) = some a ∧ L2.atI [a, b, c] (1 : Int) = some b ∧ L2.atI [a, b, c] (2 : Int) = some c := ⟨rfl, rfl, rfl⟩
theorem ruleB_len {r : Rule} (h : ¬ (1 ≤ r.a.length ∧ r.a.length ≤ 3 ∧ r.b.length = r.a.length ∧ r.c.length = r.a.length)) : ruleB r = false := by
  unfold ruleB
  rw [decide_eq_false h, Bool.false_and]
theorem all_no {p : Sm → Bool} {xs : List Sm} {x : Sm} (h : x ∈ xs) (hp : p x = false) : xs.all p = false := by
  refine Bool.eq_false_iff.mpr fun z => ?_
  have := List.all_eq_true.mp z x h
  rw [hp] at this
  exact nomatch this
theorem ruleB_a {r : Rule} {x : Sm} (h : x ∈ r.a) (hp : mayB mB r.a.length x = false) : ruleB r = false := by
  unfold ruleB sumsB
  rw [all_no h hp, Bool.false_and, Bool.false_and, Bool.false_and, Bool.and_false]
theorem ruleB_b {r : Rule} {x : Sm} (h : x ∈ r.b) (hp : mayB mO r.a.length x = false) : ruleB r = false := by
  unfold ruleB sumsB
  rw [all_no h hp, Bool.and_false, Bool.false_and, Bool.false_and, Bool.and_false]
theorem ruleB_c {r : Rule} {x : Sm} (h : x ∈ r.c) (hp : mayB mJ r.a.length x = false) : ruleB r = false := by
  unfold ruleB sumsB
  rw [all_no h hp, Bool.and_false, Bool.false_and, Bool.and_false]
theorem ruleB_d {r : Rule} (hp : mayB mT r.a.length r.d = false) : ruleB r = false := by
  unfold ruleB sumsB
  rw [hp, Bool.and_false, Bool.and_false]
/-- which words may stand where -/
def mayAt (k : Int) : List Str := if k = 0 then mB else if k = 1 then mO else if k = 2 then mJ else mT
theorem no_nam {may : List Str} {many : Int} {w : Str} (h : ¬ w ∈ may) : mayB may many (.nam w) = false := decide_eq_false h
theorem no_num {may : List Str} {many : Int} {w : Str} {k : Int} (h : ¬ w = ("number" : Str)) (h2 : ¬ (w ∈ may ∧ 0 ≤ k ∧ k < many)) : mayB may many (.num w k) = false := by
  rw [mayB_num, decide_eq_false h, Bool.false_or]
  refine Bool.eq_false_iff.mpr fun z => h2 ?_
  rw [Bool.and_eq_true, Bool.and_eq_true, decide_eq_true_eq, decide_eq_true_eq, decide_eq_true_eq] at z
  exact ⟨z.1.1, z.1.2, z.2⟩
theorem rep_eq (k : Int) (x : Sm) : repL k [x] = List.replicate k.toNat x := by
  unfold repL
  induction k.toNat with
  | zero => rfl
  | succ n ih => rw [List.replicate_succ, List.flatten_cons, ih]; rfl
def badRest (r : Rule) (at_ : Int) (told : Sm) (dk0 : List Int) : M (Rule × List Int) :=
  m_law_take dk0 (5 : Int) >>= fun r747 =>
  if r747.1 = (0 : Int) then (
  m_law_take r747.2 (3 : Int) >>= fun r757 =>
  opt (L2.atI [r.a, r.b, r.c] r757.1) >>= fun y766 =>
  appL y766 (Sm.num "number" (0 : Int)) >>= fun _ =>
  setI [r.a, r.b, r.c] r757.1 (y766 ++ [Sm.num "number" (0 : Int)]) >>= fun z787 =>
  opt (L2.atI z787 (0 : Int)) >>= fun y797 =>
  opt (L2.atI z787 (1 : Int)) >>= fun y807 =>
  opt (L2.atI z787 (2 : Int)) >>= fun y817 =>
  .ok ((T4.mk y797 y807 y817 r.d), r757.2))
  else (
  if r747.1 = (1 : Int) then (
  compS (fun (y839 : (List Sm)) (st856 : Unit) =>
  chk (CRep ([Sm.num "number" (1 : Int)]).length ((4 : Int) - (r.a.length : Int))) >>= fun _ =>
  chk (y839.length + (repL ((4 : Int) - (r.a.length : Int)) ([Sm.num "number" (1 : Int)])).length < 16777216) >>= fun _ =>
  .ok (some (y839 ++ (repL ((4 : Int) - (r.a.length : Int)) ([Sm.num "number" (1 : Int)]))), ())) [r.a, r.b, r.c] () >>= fun q921 =>
  opt (L2.atI q921.1 (0 : Int)) >>= fun y932 =>
  opt (L2.atI q921.1 (1 : Int)) >>= fun y942 =>
  opt (L2.atI q921.1 (2 : Int)) >>= fun y952 =>
  .ok ((T4.mk y932 y942 y952 r.d), r747.2))
  else (
  if r747.1 = (2 : Int) then (
  opt (L2.atI ([([] : List Sm), ([] : List Sm), ([] : List Sm)]) (0 : Int)) >>= fun y1006 =>
  opt (L2.atI ([([] : List Sm), ([] : List Sm), ([] : List Sm)]) (1 : Int)) >>= fun y1016 =>
  opt (L2.atI ([([] : List Sm), ([] : List Sm), ([] : List Sm)]) (2 : Int)) >>= fun y1026 =>
  .ok ((T4.mk y1006 y1016 y1026 r.d), r747.2))
  else (
  if at_ = (3 : Int) then (
  opt (L2.atI [r.a, r.b, r.c] (0 : Int)) >>= fun y1048 =>
  opt (L2.atI [r.a, r.b, r.c] (1 : Int)) >>= fun y1058 =>
  opt (L2.atI [r.a, r.b, r.c] (2 : Int)) >>= fun y1068 =>
  .ok ((T4.mk y1048 y1058 y1068 told), r747.2))
  else (
  opt (L2.atI [r.a, r.b, r.c] at_) >>= fun y1080 =>
  m_law_take r747.2 (r.a.length : Int) >>= fun r1088 =>
  setI y1080 r1088.1 told >>= fun z1099 =>
  setI [r.a, r.b, r.c] at_ z1099 >>= fun z1105 =>
  opt (L2.atI z1105 (0 : Int)) >>= fun y1115 =>
  opt (L2.atI z1105 (1 : Int)) >>= fun y1125 =>
  opt (L2.atI z1105 (2 : Int)) >>= fun y1135 =>
  .ok ((T4.mk y1115 y1125 y1135 r.d), r1088.2)))))
theorem badRest_ok {r : Rule} {many : Int} (R : RuleOk r many) {at_ : Int} (t0 : 0 ≤ at_) (t4 : at_ < 4) {told : Sm} (hs : Sh 10 told) (hb : mayB (mayAt at_) (r.a.length : Int) told = false) (d : D2) : ∃ r' d', badRest r at_ told (dk d) = .ok (r', dk d') ∧ RSh r' ∧ ruleB r' = false := by
  have S := rule_rsh R
  have m1 := R.m1
  have m2 := R.m2
  have la := R.la
  have lb := R.lb
  have lc := R.lc
  have h0 : Sh 10 (Sm.num "number" 0) := .inl (.inl ⟨0, rfl⟩)
  have h1 : Sh 10 (Sm.num "number" 1) := .inl (.inl ⟨1, rfl⟩)
  have app : ∀ {xs ys : List Sm}, (∀ x ∈ xs, Sh 10 x) → (∀ x ∈ ys, Sh 10 x) → ∀ x ∈ xs ++ ys, Sh 10 x := fun h1 h2 x hx => by
    rcases List.mem_append.mp hx with hx | hx
    · exact h1 x hx
    · exact h2 x hx
  have one0 : ∀ x ∈ [Sm.num "number" 0], Sh 10 x := fun x hx => by rw [List.mem_singleton.mp hx]; exact h0
  obtain ⟨way, d1, e1, w0, w5⟩ := take_small d 5 (by decide) (by decide)
  unfold badRest
  rw [bind_ok e1]
  show ∃ r' d', (if way = 0 then _ else _) = _ ∧ _
  by_cases q0 : way = 0
  · rw [if_pos q0]
    obtain ⟨k, d2, e2, k0, k3⟩ := take_small d1 3 (by decide) (by decide)
    show ∃ r' d', (m_law_take (dk d1) 3 >>= _) = _ ∧ _
    rw [bind_ok e2]
    have hk : k = 0 ∨ k = 1 ∨ k = 2 := by omega
    rcases hk with e | e | e <;> subst e
    · refine ⟨⟨r.a ++ [Sm.num "number" 0], r.b, r.c, r.d⟩, d2, ?_, ⟨by show (r.a ++ _).length ≤ 1000; rw [List.length_append, List.length_singleton]; omega, S.lb, S.lc, app S.sa one0, S.sb, S.sc, S.sd⟩, ruleB_len fun z => ?_⟩
      · show (opt (L2.atI [r.a, r.b, r.c] (0 : Int)) >>= _) = _
        rw [opt_b at3.1, bind_ok (appL_ok (by omega))]
        rfl
      · have z2 : r.b.length = (r.a ++ [Sm.num "number" 0]).length := z.2.2.1
        rw [List.length_append, List.length_singleton] at z2
        omega
    · refine ⟨⟨r.a, r.b ++ [Sm.num "number" 0], r.c, r.d⟩, d2, ?_, ⟨S.la, by show (r.b ++ _).length ≤ 1000; rw [List.length_append, List.length_singleton]; omega, S.lc, S.sa, app S.sb one0, S.sc, S.sd⟩, ruleB_len fun z => ?_⟩
      · show (opt (L2.atI [r.a, r.b, r.c] (1 : Int)) >>= _) = _
        rw [opt_b at3.2.1, bind_ok (appL_ok (by omega))]
        rfl
      · have z2 : (r.b ++ [Sm.num "number" 0]).length = r.a.length := z.2.2.1
        rw [List.length_append, List.length_singleton] at z2
        omega
    · refine ⟨⟨r.a, r.b, r.c ++ [Sm.num "number" 0], r.d⟩, d2, ?_, ⟨S.la, S.lb, by show (r.c ++ _).length ≤ 1000; rw [List.length_append, List.length_singleton]; omega, S.sa, S.sb, app S.sc one0, S.sd⟩, ruleB_len fun z => ?_⟩
      · show (opt (L2.atI [r.a, r.b, r.c] (2 : Int)) >>= _) = _
        rw [opt_b at3.2.2, bind_ok (appL_ok (by omega))]
        rfl
      · have z2 : (r.c ++ [Sm.num "number" 0]).length = r.a.length := z.2.2.2
        rw [List.length_append, List.length_singleton] at z2
        omega
  rw [if_neg q0]
  show ∃ r' d', (if way = 1 then _ else _) = _ ∧ _
  by_cases q1 : way = 1
  · rw [if_pos q1]
    have rl : ∀ (xs : List Sm), (xs.length : Int) = many → (xs ++ repL ((4 : Int) - (r.a.length : Int)) [Sm.num "number" 1]).length = 4 := fun xs h => by
      rw [rep_eq, List.length_append, List.length_replicate]
      omega
    have rs : ∀ x ∈ repL ((4 : Int) - (r.a.length : Int)) [Sm.num "number" 1], Sh 10 x := fun x hx => by
      rw [rep_eq] at hx
      rw [(List.mem_replicate.mp hx).2]
      exact h1
    rw [bind_ok (compS_pure (fun y => some (y ++ repL ((4 : Int) - (r.a.length : Int)) [Sm.num "number" 1])) (by show 3 < 16777216; decide) fun y hy => by
      have hy : (y.length : Int) = many := by
        simp only [List.mem_cons, List.not_mem_nil, or_false] at hy
        rcases hy with e | e | e <;> subst e <;> assumption
      have := rl y hy
      rw [List.length_append] at this
      rw [chk_b (show CRep [Sm.num "number" 1].length ((4 : Int) - (r.a.length : Int)) from ⟨by omega, by omega, by show 1 * _ < _; omega⟩)]
      rw [chk_b (by omega)])]
    refine ⟨⟨r.a ++ repL ((4 : Int) - (r.a.length : Int)) [Sm.num "number" 1], r.b ++ repL ((4 : Int) - (r.a.length : Int)) [Sm.num "number" 1], r.c ++ repL ((4 : Int) - (r.a.length : Int)) [Sm.num "number" 1], r.d⟩, d1, ?_, ⟨by rw [rl _ la]; decide, by rw [rl _ lb]; decide, by rw [rl _ lc]; decide, app S.sa rs, app S.sb rs, app S.sc rs, S.sd⟩, ruleB_len fun z => ?_⟩
    · exact (opt_b at3.1 _).trans ((opt_b at3.2.1 _).trans (opt_b at3.2.2 _))
    · have z2 : (r.a ++ repL ((4 : Int) - (r.a.length : Int)) [Sm.num "number" 1]).length ≤ 3 := z.2.1
      rw [rl _ la] at z2
      omega
  rw [if_neg q1]
  show ∃ r' d', (if way = 2 then _ else _) = _ ∧ _
  by_cases q2 : way = 2
  · rw [if_pos q2]
    exact ⟨⟨[], [], [], r.d⟩, d1, rfl, ⟨Nat.zero_le _, Nat.zero_le _, Nat.zero_le _, (fun _ h => nomatch h), (fun _ h => nomatch h), (fun _ h => nomatch h), S.sd⟩, ruleB_len fun z => absurd (show 1 ≤ 0 from z.1) (by decide)⟩
  rw [if_neg q2]
  by_cases q3 : at_ = 3
  · rw [if_pos q3, opt_b at3.1, opt_b at3.2.1, opt_b at3.2.2]
    subst q3
    exact ⟨⟨r.a, r.b, r.c, told⟩, d1, rfl, ⟨S.la, S.lb, S.lc, S.sa, S.sb, S.sc, hs⟩, ruleB_d hb⟩
  rw [if_neg q3]
  obtain ⟨k, d2, e2, k0, k1⟩ := take_small d1 (r.a.length : Int) (by omega) (by omega)
  have ins : ∀ {xs : List Sm}, k.toNat < xs.length → told ∈ xs.set k.toNat told := fun {xs} h => List.mem_of_getElem? (i := k.toNat) (by rw [List.getElem?_set_self h])
  have put : ∀ {xs : List Sm}, (∀ x ∈ xs, Sh 10 x) → ∀ x ∈ xs.set k.toNat told, Sh 10 x := fun h x hx => by
    rcases List.mem_or_eq_of_mem_set hx with hx | hx
    · exact h x hx
    · rw [hx]; exact hs
  have hk : at_ = 0 ∨ at_ = 1 ∨ at_ = 2 := by omega
  rcases hk with e | e | e <;> subst e
  · refine ⟨⟨r.a.set k.toNat told, r.b, r.c, r.d⟩, d2, ?_, ⟨by show (r.a.set _ _).length ≤ 1000; rw [List.length_set]; omega, S.lb, S.lc, put S.sa, S.sb, S.sc, S.sd⟩, ruleB_a (x := told) (ins (by omega)) (by show mayB mB ((r.a.set k.toNat told).length : Int) told = false; rw [List.length_set]; exact hb)⟩
    rw [opt_b at3.1]
    show (m_law_take (dk d1) (r.a.length : Int) >>= _) = _
    rw [bind_ok e2]
    show (setI r.a k told >>= _) = _
    rw [bind_ok (setI_ok k0 (by omega))]
    rfl
  · refine ⟨⟨r.a, r.b.set k.toNat told, r.c, r.d⟩, d2, ?_, ⟨S.la, by show (r.b.set _ _).length ≤ 1000; rw [List.length_set]; omega, S.lc, S.sa, put S.sb, S.sc, S.sd⟩, ruleB_b (x := told) (ins (by omega)) hb⟩
    rw [opt_b at3.2.1]
    show (m_law_take (dk d1) (r.a.length : Int) >>= _) = _
    rw [bind_ok e2]
    show (setI r.b k told >>= _) = _
    rw [bind_ok (setI_ok k0 (by omega))]
    rfl
  · refine ⟨⟨r.a, r.b, r.c.set k.toNat told, r.d⟩, d2, ?_, ⟨S.la, S.lb, by show (r.c.set _ _).length ≤ 1000; rw [List.length_set]; omega, S.sa, S.sb, put S.sc, S.sd⟩, ruleB_c (x := told) (ins (by omega)) hb⟩
    rw [opt_b at3.2.2]
    show (m_law_take (dk d1) (r.a.length : Int) >>= _) = _
    rw [bind_ok e2]
    show (setI r.c k told >>= _) = _
    rw [bind_ok (setI_ok k0 (by omega))]
    rfl
theorem bad_ok (d : D2) {r : Rule} {many : Int} (R : RuleOk r many) : ∃ r' d', m_law_bad_rule (dk d) r = .ok (r', dk d') ∧ RSh r' ∧ ruleB r' = false := by
  have m1 := R.m1
  have la := R.la
  obtain ⟨k, d1, e1, k0, k1⟩ := take_small d 3 (by decide) (by decide)
  obtain ⟨big, a1, a2⟩ := atI_some (xs := [(1 : Int), 3, (10 : Int) ^ Int.toNat 20]) (j := k) k0 (by simpa using k1)
  have hbig : 0 < big ∧ big ≤ 10 ^ 40 := by
    have hm := List.mem_of_getElem? a2
    have e20 : (10 : Int) ^ Int.toNat 20 = 100000000000000000000 := by decide
    have e40 : (10 : Int) ^ 40 = 10000000000000000000000000000000000000000 := by decide
    rw [e20] at hm
    simp only [List.mem_cons, List.not_mem_nil, or_false] at hm
    omega
  obtain ⟨far, d2, e2, f0, f1⟩ := take_big d1 big hbig.1 hbig.2
  obtain ⟨at_, d3, e3, t0, t4⟩ := take_small d2 4 (by decide) (by decide)
  obtain ⟨j, d4, e4, j0, j3⟩ := take_small d3 3 (by decide) (by decide)
  obtain ⟨u, d5, e5, _, _⟩ := take_small d4 2 (by decide) (by decide)
  obtain ⟨n, hn⟩ : ∃ n : Int, n = (r.a.length : Int) := ⟨_, rfl⟩
  obtain ⟨bads, hbads⟩ : ∃ bads : List (List Sm), bads = [[Sm.nam "tie", Sm.num "so" 0, Sm.num "more" 0], [Sm.num "so" 0, Sm.num "more" ((r.a.length : Int) + far), Sm.num "more" (-1 - far)], [Sm.nam "tie", Sm.num "so" ((r.a.length : Int) + far), Sm.num "more" (-1 - far)], [Sm.nam "tie", Sm.num "more" 0, Sm.num "so" (-1 - far)]] := ⟨_, rfl⟩
  have pick : ∃ p x, L2.atI bads at_ = some p ∧ L2.atI p j = some x ∧ Lf x ∧ mayB (mayAt at_) (r.a.length : Int) x = false := by
    rw [hbads]
    have hk : at_ = 0 ∨ at_ = 1 ∨ at_ = 2 ∨ at_ = 3 := by omega
    have hj : j = 0 ∨ j = 1 ∨ j = 2 := by omega
    have T : Lf (Sm.nam "tie") := .inr (.inr (.inl rfl))
    have So : ∀ k, Lf (Sm.num "so" k) := fun k => .inr (.inr (.inr (.inl ⟨k, rfl⟩)))
    have Mo : ∀ k, Lf (Sm.num "more" k) := fun k => .inr (.inr (.inr (.inr ⟨k, rfl⟩)))
    rcases hk with e | e | e | e <;> subst e <;> rcases hj with e | e | e <;> subst e
    · exact ⟨_, _, rfl, rfl, T, no_nam (by decide +kernel)⟩
    · exact ⟨_, _, rfl, rfl, So _, no_num s_ns fun z => absurd z.1 (by decide +kernel)⟩
    · exact ⟨_, _, rfl, rfl, Mo _, no_num s_nm fun z => absurd z.1 (by decide +kernel)⟩
    · exact ⟨_, _, rfl, rfl, So _, no_num s_ns fun z => absurd z.1 (by decide +kernel)⟩
    · exact ⟨_, _, rfl, rfl, Mo _, no_num s_nm fun z => by omega⟩
    · exact ⟨_, _, rfl, rfl, Mo _, no_num s_nm fun z => by omega⟩
    · exact ⟨_, _, rfl, rfl, T, no_nam (by decide +kernel)⟩
    · exact ⟨_, _, rfl, rfl, So _, no_num s_ns fun z => by omega⟩
    · exact ⟨_, _, rfl, rfl, Mo _, no_num s_nm fun z => by omega⟩
    · exact ⟨_, _, rfl, rfl, T, no_nam (by decide +kernel)⟩
    · exact ⟨_, _, rfl, rfl, Mo _, no_num s_nm fun z => absurd z.1 (by decide +kernel)⟩
    · exact ⟨_, _, rfl, rfl, So _, no_num s_ns fun z => by omega⟩
  obtain ⟨p, x, p1, p2, hx, hb⟩ := pick
  subst hbads
  unfold m_law_bad_rule
  rw [bind_ok (compS_pure (fun y => some y) (by show 3 < 16777216; decide) fun y hy => rfl)]
  rw [show (List.filterMap (fun (y : List Sm) => some y) [r.a, r.b, r.c]) = [r.a, r.b, r.c] from rfl]
  rw [opt_b (show L2.atI [r.a, r.b, r.c] (0 : Int) = some r.a from rfl), bind_ok e1]
  show ∃ r' d', (opt (L2.atI [(1 : Int), 3, (10 : Int) ^ Int.toNat 20] k) >>= _) = _ ∧ _
  rw [opt_b a1]
  show ∃ r' d', (m_law_take (dk d1) big >>= _) = _ ∧ _
  rw [bind_ok e2]
  show ∃ r' d', (m_law_take (dk d2) 4 >>= _) = _ ∧ _
  rw [bind_ok e3, ret_b, chk_b (by show 2 + 2 < 16777216; decide), ret_b]
  refine (exists_congr fun _ => exists_congr fun _ => and_congr_left' (iff_of_eq (congrArg (· = _) (opt_b p1 _)))).mpr ?_
  show ∃ r' d', (m_law_take (dk d3) 3 >>= _) = _ ∧ _
  rw [bind_ok e4]
  refine (exists_congr fun _ => exists_congr fun _ => and_congr_left' (iff_of_eq (congrArg (· = _) (opt_b p2 _)))).mpr ?_
  show ∃ r' d', (m_law_take (dk d4) 2 >>= _) = _ ∧ _
  rw [bind_ok e5]
  show ∃ r' d', (if u = 0 then _ else _) = _ ∧ _
  by_cases hu : u = 0
  · rw [if_pos hu]
    refine badRest_ok R t0 t4 (told := Sm.two "most" (Sm.num "number" 1) (Sm.two "plus" x (Sm.nam "own"))) ?_ ?_ d5
    · exact .inr ⟨_, _, _, rfl, .inr (.inr (.inr (.inl rfl))), .inl (.inl ⟨1, rfl⟩), .inr ⟨_, _, _, rfl, .inl rfl, .inl hx, .inl (.inr (.inl rfl))⟩⟩
    · show (_ && (mayB _ _ x && _)) = false
      rw [hb, Bool.false_and, Bool.and_false]
  · rw [if_neg hu]
    exact badRest_ok R t0 t4 (.inl hx) hb d5
theorem law_true (ns : List Int) (h : ns.length ≤ 63) : m_law ns = .ok true := by
  unfold m_law
  have hc := cut10 ns 10
  have hc : (cutL ns none (some (10 : Int))).length ≤ ns.length := hc
  rw [chk_b (show ([((10 : Int) ^ Int.toNat (18 : Int))]).length + (cutL ns none (some (10 : Int))).length < 16777216 by simp only [List.length_singleton]; omega)]
  rw [bind_ok (loopM_all fun c _ => ?_)]
  obtain ⟨d, e1⟩ := deck_ok c
  rw [bind_ok e1]
  obtain ⟨t, d1, e2, ht, hl, _, _⟩ := tree_ok d 8 4 (by omega) (by omega) (by decide) (by decide)
  show (m_law_tree (dk d) 8 4 >>= _) = _
  rw [bind_ok e2]
  have hpos := ht.pos
  obtain ⟨r, d2, many, e3, R⟩ := rule_ok d1 true
  show (m_law_rule (dk d1) true >>= _) = _
  rw [bind_ok e3]
  obtain ⟨bad, d3, e4, B1, B2⟩ := bad_ok d2 R
  show (m_law_bad_rule (dk d2) r >>= _) = _
  rw [bind_ok e4]
  show (m_need_rule r >>= _) = _
  rw [bind_ok (show m_need_rule r = .ok () by unfold m_need_rule; rw [bind_ok (is_rule_ok R), if_pos rfl])]
  obtain ⟨p, d4, e5, _, _⟩ := take_small d3 (t.1.length : Int) (by omega) (by omega)
  show (m_law_take (dk d3) (t.1.length : Int) >>= _) = _
  rw [bind_ok e5]
  have nr : m_need_rule bad = raise "NoRule" := by
    unfold m_need_rule
    rw [bind_ok (is_rule_val B1), B2, if_neg Bool.false_ne_true]
  have ask : ∀ place way, m_law_asked t bad place way = raise "NoRule" := fun place way => by
    have al : m_all_seats t bad = raise "NoRule" := by unfold m_all_seats; rw [nr]; rfl
    unfold m_law_asked
    by_cases q : way = 0
    · rw [if_pos q, nr]; rfl
    rw [if_neg q]
    by_cases q : way = 1
    · rw [if_pos q, show m_branch_row t bad (place, place) = raise "NoRule" by unfold m_branch_row; rw [nr]; rfl]; rfl
    rw [if_neg q]
    by_cases q : way = 2
    · rw [if_pos q, show m_seat_worth t bad place = raise "NoRule" by unfold m_seat_worth; rw [nr]; rfl]; rfl
    rw [if_neg q]
    by_cases q : way = 3
    · rw [if_pos q, show m_all_rows t bad = raise "NoRule" by unfold m_all_rows; rw [nr]; rfl]; rfl
    rw [if_neg q]
    by_cases q : way = 4
    · rw [if_pos q, al]; rfl
    rw [if_neg q]
    by_cases q : way = 5
    · rw [if_pos q, show m_best_seats t bad = raise "NoRule" by unfold m_best_seats; rw [al]; rfl]; rfl
    rw [if_neg q, show m_least_seats t bad = raise "NoRule" by unfold m_least_seats; rw [al]; rfl]
    rfl
  rw [bind_ok (loopM_all fun y _ => ?_)]
  rw [chk_b (show okR 7 from ⟨by decide, by decide⟩)]
  rw [bind_ok (loopM_all fun way _ => ?_)]
  show (m_law_refused t bad y way >>= _) = _
  rw [bind_ok (show m_law_refused t bad y way = .ok true by
    unfold m_law_refused
    refine (askK (n := "NoRule") (by rw [ask y way]; rfl) (by decide)).trans ?_
    rfl), if_pos rfl]

theorem all_mk {P : Program} {w : World} {K : PySem.W.Frag} {h : Heap} {mg : Str → Option Value} {fa f1 f2 f3 f4 f5 f6 f7 f8 f9 f10 f11 f12 f13 f14 f15 f16 f17 f18 f19 f20 f21 f22 f23 f24 f25 f26 f27 f28 f29 f30 f31 f32 f33 f34 f35 f36 C_NoPlace C_NoRule C_SeatError C_NoForm C_NoLength C_NoName C_NoOrder C_NoPaper C_NoText C_NoTie C_NoTree : Addr} {od1 an1 od2 an2 od3 an3 od4 an4 od5 an5 od6 an6 od7 an7 od8 an8 od9 an9 od10 an10 od11 an11 od12 an12 od13 an13 od14 an14 od15 an15 od16 an16 od17 an17 od18 an18 od19 an19 od20 an20 od21 an21 od22 an22 od23 an23 od24 an24 od25 an25 od26 an26 od27 an27 od28 an28 od29 an29 od30 an30 od31 an31 od32 an32 od33 an33 od34 an34 od35 an35 od36 an36 : Option Addr} {sl1 sl2 sl3 sl4 sl5 sl6 sl7 sl8 sl9 sl10 sl11 sl12 sl13 sl14 sl15 sl16 sl17 sl18 sl19 sl20 sl21 sl22 sl23 sl24 sl25 sl26 sl27 sl28 sl29 sl30 sl31 sl32 sl33 sl34 sl35 sl36 : Array (Option Value)} {oc1 kV1 dc1 pm1 cd1 ct1 oc2 kV2 dc2 pm2 cd2 ct2 oc3 kV3 dc3 pm3 cd3 ct3 oc4 kV4 dc4 pm4 cd4 ct4 oc5 kV5 dc5 pm5 cd5 ct5 oc6 kV6 dc6 pm6 cd6 ct6 oc7 kV7 dc7 pm7 cd7 ct7 oc8 kV8 dc8 pm8 cd8 ct8 oc9 kV9 dc9 pm9 cd9 ct9 oc10 kV10 dc10 pm10 cd10 ct10 oc11 kV11 dc11 pm11 cd11 ct11 oc12 kV12 dc12 pm12 cd12 ct12 oc13 kV13 dc13 pm13 cd13 ct13 oc14 kV14 dc14 pm14 cd14 ct14 oc15 kV15 dc15 pm15 cd15 ct15 oc16 kV16 dc16 pm16 cd16 ct16 oc17 kV17 dc17 pm17 cd17 ct17 oc18 kV18 dc18 pm18 cd18 ct18 oc19 kV19 dc19 pm19 cd19 ct19 oc20 kV20 dc20 pm20 cd20 ct20 oc21 kV21 dc21 pm21 cd21 ct21 oc22 kV22 dc22 pm22 cd22 ct22 oc23 kV23 dc23 pm23 cd23 ct23 oc24 kV24 dc24 pm24 cd24 ct24 oc25 kV25 dc25 pm25 cd25 ct25 oc26 kV26 dc26 pm26 cd26 ct26 oc27 kV27 dc27 pm27 cd27 ct27 oc28 kV28 dc28 pm28 cd28 ct28 oc29 kV29 dc29 pm29 cd29 ct29 oc30 kV30 dc30 pm30 cd30 ct30 oc31 kV31 dc31 pm31 cd31 ct31 oc32 kV32 dc32 pm32 cd32 ct32 oc33 kV33 dc33 pm33 cd33 ct33 oc34 kV34 dc34 pm34 cd34 ct34 oc35 kV35 dc35 pm35 cd35 ct35 oc36 kV36 dc36 pm36 cd36 ct36 : Value} {tk_MOST : Tok} (X : K.In h) (G : h.Ns mainGlobals mg) (hfa : mg "law" = some (.ref fa))
    (a1 : PySem.W.nsIn K mainGlobals "may_stand" = some (some (.ref f1))) (l1 : K.lookup f1 = some ⟨oc1, od1, .func (PySem.W.fnOf "may_stand" "may_stand" (defArgs s_may_stand) (defBody s_may_stand) (defScope s_may_stand) .none kV1 dc1 pm1 an1 cd1 ct1), sl1⟩) (c1 : PySem.W.codeIn K cd1 "may_stand" = true) (k1 : PySem.W.keepIn K (.ref f1) = true)
    (a2 : PySem.W.nsIn K mainGlobals "is_rule" = some (some (.ref f2))) (l2 : K.lookup f2 = some ⟨oc2, od2, .func (PySem.W.fnOf "is_rule" "is_rule" (defArgs s_is_rule) (defBody s_is_rule) (defScope s_is_rule) .none kV2 dc2 pm2 an2 cd2 ct2), sl2⟩) (c2 : PySem.W.codeIn K cd2 "is_rule" = true) (k2 : PySem.W.keepIn K (.ref f2) = true)
    (a3 : PySem.W.nsIn K mainGlobals "need_rule" = some (some (.ref f3))) (l3 : K.lookup f3 = some ⟨oc3, od3, .func (PySem.W.fnOf "need_rule" "need_rule" (defArgs s_need_rule) (defBody s_need_rule) (defScope s_need_rule) .none kV3 dc3 pm3 an3 cd3 ct3), sl3⟩) (c3 : PySem.W.codeIn K cd3 "need_rule" = true) (k3 : PySem.W.keepIn K (.ref f3) = true)
    (a4 : PySem.W.nsIn K mainGlobals "sum_at" = some (some (.ref f4))) (l4 : K.lookup f4 = some ⟨oc4, od4, .func (PySem.W.fnOf "sum_at" "sum_at" (defArgs s_sum_at) (defBody s_sum_at) (defScope s_sum_at) .none kV4 dc4 pm4 an4 cd4 ct4), sl4⟩) (c4 : PySem.W.codeIn K cd4 "sum_at" = true) (k4 : PySem.W.keepIn K (.ref f4) = true)
    (a5 : PySem.W.nsIn K mainGlobals "begun" = some (some (.ref f5))) (l5 : K.lookup f5 = some ⟨oc5, od5, .func (PySem.W.fnOf "begun" "begun" (defArgs s_begun) (defBody s_begun) (defScope s_begun) .none kV5 dc5 pm5 an5 cd5 ct5), sl5⟩) (c5 : PySem.W.codeIn K cd5 "begun" = true) (k5 : PySem.W.keepIn K (.ref f5) = true)
    (a6 : PySem.W.nsIn K mainGlobals "joined" = some (some (.ref f6))) (l6 : K.lookup f6 = some ⟨oc6, od6, .func (PySem.W.fnOf "joined" "joined" (defArgs s_joined) (defBody s_joined) (defScope s_joined) .none kV6 dc6 pm6 an6 cd6 ct6), sl6⟩) (c6 : PySem.W.codeIn K cd6 "joined" = true) (k6 : PySem.W.keepIn K (.ref f6) = true)
    (a7 : PySem.W.nsIn K mainGlobals "over_tie" = some (some (.ref f7))) (l7 : K.lookup f7 = some ⟨oc7, od7, .func (PySem.W.fnOf "over_tie" "over_tie" (defArgs s_over_tie) (defBody s_over_tie) (defScope s_over_tie) .none kV7 dc7 pm7 an7 cd7 ct7), sl7⟩) (c7 : PySem.W.codeIn K cd7 "over_tie" = true) (k7 : PySem.W.keepIn K (.ref f7) = true)
    (a8 : PySem.W.nsIn K mainGlobals "told_by" = some (some (.ref f8))) (l8 : K.lookup f8 = some ⟨oc8, od8, .func (PySem.W.fnOf "told_by" "told_by" (defArgs s_told_by) (defBody s_told_by) (defScope s_told_by) .none kV8 dc8 pm8 an8 cd8 ct8), sl8⟩) (c8 : PySem.W.codeIn K cd8 "told_by" = true) (k8 : PySem.W.keepIn K (.ref f8) = true)
    (a9 : PySem.W.nsIn K mainGlobals "tied_places" = some (some (.ref f9))) (l9 : K.lookup f9 = some ⟨oc9, od9, .func (PySem.W.fnOf "tied_places" "tied_places" (defArgs s_tied_places) (defBody s_tied_places) (defScope s_tied_places) .none kV9 dc9 pm9 an9 cd9 ct9), sl9⟩) (c9 : PySem.W.codeIn K cd9 "tied_places" = true) (k9 : PySem.W.keepIn K (.ref f9) = true)
    (a10 : PySem.W.nsIn K mainGlobals "need_place" = some (some (.ref f10))) (l10 : K.lookup f10 = some ⟨oc10, od10, .func (PySem.W.fnOf "need_place" "need_place" (defArgs s_need_place) (defBody s_need_place) (defScope s_need_place) .none kV10 dc10 pm10 an10 cd10 ct10), sl10⟩) (c10 : PySem.W.codeIn K cd10 "need_place" = true) (k10 : PySem.W.keepIn K (.ref f10) = true)
    (a11 : PySem.W.nsIn K mainGlobals "lengths_of" = some (some (.ref f11))) (l11 : K.lookup f11 = some ⟨oc11, od11, .func (PySem.W.fnOf "lengths_of" "lengths_of" (defArgs s_lengths_of) (defBody s_lengths_of) (defScope s_lengths_of) .none kV11 dc11 pm11 an11 cd11 ct11), sl11⟩) (c11 : PySem.W.codeIn K cd11 "lengths_of" = true) (k11 : PySem.W.keepIn K (.ref f11) = true)
    (a12 : PySem.W.nsIn K mainGlobals "every_branch" = some (some (.ref f12))) (l12 : K.lookup f12 = some ⟨oc12, od12, .func (PySem.W.fnOf "every_branch" "every_branch" (defArgs s_every_branch) (defBody s_every_branch) (defScope s_every_branch) .none kV12 dc12 pm12 an12 cd12 ct12), sl12⟩) (c12 : PySem.W.codeIn K cd12 "every_branch" = true) (k12 : PySem.W.keepIn K (.ref f12) = true)
    (a13 : PySem.W.nsIn K mainGlobals "row_with" = some (some (.ref f13))) (l13 : K.lookup f13 = some ⟨oc13, od13, .func (PySem.W.fnOf "row_with" "row_with" (defArgs s_row_with) (defBody s_row_with) (defScope s_row_with) .none kV13 dc13 pm13 an13 cd13 ct13), sl13⟩) (c13 : PySem.W.codeIn K cd13 "row_with" = true) (k13 : PySem.W.keepIn K (.ref f13) = true)
    (a14 : PySem.W.nsIn K mainGlobals "row_down" = some (some (.ref f14))) (l14 : K.lookup f14 = some ⟨oc14, od14, .func (PySem.W.fnOf "row_down" "row_down" (defArgs s_row_down) (defBody s_row_down) (defScope s_row_down) .none kV14 dc14 pm14 an14 cd14 ct14), sl14⟩) (c14 : PySem.W.codeIn K cd14 "row_down" = true) (k14 : PySem.W.keepIn K (.ref f14) = true)
    (a15 : PySem.W.nsIn K mainGlobals "branch_row" = some (some (.ref f15))) (l15 : K.lookup f15 = some ⟨oc15, od15, .func (PySem.W.fnOf "branch_row" "branch_row" (defArgs s_branch_row) (defBody s_branch_row) (defScope s_branch_row) .none kV15 dc15 pm15 an15 cd15 ct15), sl15⟩) (c15 : PySem.W.codeIn K cd15 "branch_row" = true) (k15 : PySem.W.keepIn K (.ref f15) = true)
    (a16 : PySem.W.nsIn K mainGlobals "seat_worth" = some (some (.ref f16))) (l16 : K.lookup f16 = some ⟨oc16, od16, .func (PySem.W.fnOf "seat_worth" "seat_worth" (defArgs s_seat_worth) (defBody s_seat_worth) (defScope s_seat_worth) .none kV16 dc16 pm16 an16 cd16 ct16), sl16⟩) (c16 : PySem.W.codeIn K cd16 "seat_worth" = true) (k16 : PySem.W.keepIn K (.ref f16) = true)
    (a17 : PySem.W.nsIn K mainGlobals "order_of" = some (some (.ref f17))) (l17 : K.lookup f17 = some ⟨oc17, od17, .func (PySem.W.fnOf "order_of" "order_of" (defArgs s_order_of) (defBody s_order_of) (defScope s_order_of) .none kV17 dc17 pm17 an17 cd17 ct17), sl17⟩) (c17 : PySem.W.codeIn K cd17 "order_of" = true) (k17 : PySem.W.keepIn K (.ref f17) = true)
    (a18 : PySem.W.nsIn K mainGlobals "rows_known" = some (some (.ref f18))) (l18 : K.lookup f18 = some ⟨oc18, od18, .func (PySem.W.fnOf "rows_known" "rows_known" (defArgs s_rows_known) (defBody s_rows_known) (defScope s_rows_known) .none kV18 dc18 pm18 an18 cd18 ct18), sl18⟩) (c18 : PySem.W.codeIn K cd18 "rows_known" = true) (k18 : PySem.W.keepIn K (.ref f18) = true)
    (a19 : PySem.W.nsIn K mainGlobals "seats_by" = some (some (.ref f19))) (l19 : K.lookup f19 = some ⟨oc19, od19, .func (PySem.W.fnOf "seats_by" "seats_by" (defArgs s_seats_by) (defBody s_seats_by) (defScope s_seats_by) .none kV19 dc19 pm19 an19 cd19 ct19), sl19⟩) (c19 : PySem.W.codeIn K cd19 "seats_by" = true) (k19 : PySem.W.keepIn K (.ref f19) = true)
    (a20 : PySem.W.nsIn K mainGlobals "all_rows" = some (some (.ref f20))) (l20 : K.lookup f20 = some ⟨oc20, od20, .func (PySem.W.fnOf "all_rows" "all_rows" (defArgs s_all_rows) (defBody s_all_rows) (defScope s_all_rows) .none kV20 dc20 pm20 an20 cd20 ct20), sl20⟩) (c20 : PySem.W.codeIn K cd20 "all_rows" = true) (k20 : PySem.W.keepIn K (.ref f20) = true)
    (a21 : PySem.W.nsIn K mainGlobals "all_seats" = some (some (.ref f21))) (l21 : K.lookup f21 = some ⟨oc21, od21, .func (PySem.W.fnOf "all_seats" "all_seats" (defArgs s_all_seats) (defBody s_all_seats) (defScope s_all_seats) .none kV21 dc21 pm21 an21 cd21 ct21), sl21⟩) (c21 : PySem.W.codeIn K cd21 "all_seats" = true) (k21 : PySem.W.keepIn K (.ref f21) = true)
    (a22 : PySem.W.nsIn K mainGlobals "best_seats" = some (some (.ref f22))) (l22 : K.lookup f22 = some ⟨oc22, od22, .func (PySem.W.fnOf "best_seats" "best_seats" (defArgs s_best_seats) (defBody s_best_seats) (defScope s_best_seats) .none kV22 dc22 pm22 an22 cd22 ct22), sl22⟩) (c22 : PySem.W.codeIn K cd22 "best_seats" = true) (k22 : PySem.W.keepIn K (.ref f22) = true)
    (a23 : PySem.W.nsIn K mainGlobals "least_seats" = some (some (.ref f23))) (l23 : K.lookup f23 = some ⟨oc23, od23, .func (PySem.W.fnOf "least_seats" "least_seats" (defArgs s_least_seats) (defBody s_least_seats) (defScope s_least_seats) .none kV23 dc23 pm23 an23 cd23 ct23), sl23⟩) (c23 : PySem.W.codeIn K cd23 "least_seats" = true) (k23 : PySem.W.keepIn K (.ref f23) = true)
    (a24 : PySem.W.nsIn K mainGlobals "_law_stir" = some (some (.ref f24))) (l24 : K.lookup f24 = some ⟨oc24, od24, .func (PySem.W.fnOf "_law_stir" "_law_stir" (defArgs s_law_stir) (defBody s_law_stir) (defScope s_law_stir) .none kV24 dc24 pm24 an24 cd24 ct24), sl24⟩) (c24 : PySem.W.codeIn K cd24 "_law_stir" = true) (k24 : PySem.W.keepIn K (.ref f24) = true)
    (a25 : PySem.W.nsIn K mainGlobals "_law_deck" = some (some (.ref f25))) (l25 : K.lookup f25 = some ⟨oc25, od25, .func (PySem.W.fnOf "_law_deck" "_law_deck" (defArgs s_law_deck) (defBody s_law_deck) (defScope s_law_deck) .none kV25 dc25 pm25 an25 cd25 ct25), sl25⟩) (c25 : PySem.W.codeIn K cd25 "_law_deck" = true) (k25 : PySem.W.keepIn K (.ref f25) = true)
    (a26 : PySem.W.nsIn K mainGlobals "_law_take" = some (some (.ref f26))) (l26 : K.lookup f26 = some ⟨oc26, od26, .func (PySem.W.fnOf "_law_take" "_law_take" (defArgs s_law_take) (defBody s_law_take) (defScope s_law_take) .none kV26 dc26 pm26 an26 cd26 ct26), sl26⟩) (c26 : PySem.W.codeIn K cd26 "_law_take" = true) (k26 : PySem.W.keepIn K (.ref f26) = true)
    (a27 : PySem.W.nsIn K mainGlobals "_law_number" = some (some (.ref f27))) (l27 : K.lookup f27 = some ⟨oc27, od27, .func (PySem.W.fnOf "_law_number" "_law_number" (defArgs s_law_number) (defBody s_law_number) (defScope s_law_number) .none kV27 dc27 pm27 an27 cd27 ct27), sl27⟩) (c27 : PySem.W.codeIn K cd27 "_law_number" = true) (k27 : PySem.W.keepIn K (.ref f27) = true)
    (a28 : PySem.W.nsIn K mainGlobals "_law_order" = some (some (.ref f28))) (l28 : K.lookup f28 = some ⟨oc28, od28, .func (PySem.W.fnOf "_law_order" "_law_order" (defArgs s_law_order) (defBody s_law_order) (defScope s_law_order) .none kV28 dc28 pm28 an28 cd28 ct28), sl28⟩) (c28 : PySem.W.codeIn K cd28 "_law_order" = true) (k28 : PySem.W.keepIn K (.ref f28) = true)
    (a29 : PySem.W.nsIn K mainGlobals "_law_tree" = some (some (.ref f29))) (l29 : K.lookup f29 = some ⟨oc29, od29, .func (PySem.W.fnOf "_law_tree" "_law_tree" (defArgs s_law_tree) (defBody s_law_tree) (defScope s_law_tree) .none kV29 dc29 pm29 an29 cd29 ct29), sl29⟩) (c29 : PySem.W.codeIn K cd29 "_law_tree" = true) (k29 : PySem.W.keepIn K (.ref f29) = true)
    (a30 : PySem.W.nsIn K mainGlobals "_law_leaf" = some (some (.ref f30))) (l30 : K.lookup f30 = some ⟨oc30, od30, .func (PySem.W.fnOf "_law_leaf" "_law_leaf" (defArgs s_law_leaf) (defBody s_law_leaf) (defScope s_law_leaf) .none kV30 dc30 pm30 an30 cd30 ct30), sl30⟩) (c30 : PySem.W.codeIn K cd30 "_law_leaf" = true) (k30 : PySem.W.keepIn K (.ref f30) = true)
    (a31 : PySem.W.nsIn K mainGlobals "_law_sum" = some (some (.ref f31))) (l31 : K.lookup f31 = some ⟨oc31, od31, .func (PySem.W.fnOf "_law_sum" "_law_sum" (defArgs s_law_sum) (defBody s_law_sum) (defScope s_law_sum) .none kV31 dc31 pm31 an31 cd31 ct31), sl31⟩) (c31 : PySem.W.codeIn K cd31 "_law_sum" = true) (k31 : PySem.W.keepIn K (.ref f31) = true)
    (a32 : PySem.W.nsIn K mainGlobals "_law_rule" = some (some (.ref f32))) (l32 : K.lookup f32 = some ⟨oc32, od32, .func (PySem.W.fnOf "_law_rule" "_law_rule" (defArgs s_law_rule) (defBody s_law_rule) (defScope s_law_rule) .none kV32 dc32 pm32 an32 cd32 ct32), sl32⟩) (c32 : PySem.W.codeIn K cd32 "_law_rule" = true) (k32 : PySem.W.keepIn K (.ref f32) = true)
    (a33 : PySem.W.nsIn K mainGlobals "_law_asked" = some (some (.ref f33))) (l33 : K.lookup f33 = some ⟨oc33, od33, .func (PySem.W.fnOf "_law_asked" "_law_asked" (defArgs s_law_asked) (defBody s_law_asked) (defScope s_law_asked) .none kV33 dc33 pm33 an33 cd33 ct33), sl33⟩) (c33 : PySem.W.codeIn K cd33 "_law_asked" = true) (k33 : PySem.W.keepIn K (.ref f33) = true)
    (a34 : PySem.W.nsIn K mainGlobals "_law_refused" = some (some (.ref f34))) (l34 : K.lookup f34 = some ⟨oc34, od34, .func (PySem.W.fnOf "_law_refused" "_law_refused" (defArgs s_law_refused) (defBody s_law_refused) (defScope s_law_refused) .none kV34 dc34 pm34 an34 cd34 ct34), sl34⟩) (c34 : PySem.W.codeIn K cd34 "_law_refused" = true) (k34 : PySem.W.keepIn K (.ref f34) = true)
    (a35 : PySem.W.nsIn K mainGlobals "_law_bad_rule" = some (some (.ref f35))) (l35 : K.lookup f35 = some ⟨oc35, od35, .func (PySem.W.fnOf "_law_bad_rule" "_law_bad_rule" (defArgs s_law_bad_rule) (defBody s_law_bad_rule) (defScope s_law_bad_rule) .none kV35 dc35 pm35 an35 cd35 ct35), sl35⟩) (c35 : PySem.W.codeIn K cd35 "_law_bad_rule" = true) (k35 : PySem.W.keepIn K (.ref f35) = true)
    (a36 : PySem.W.nsIn K mainGlobals "law" = some (some (.ref f36))) (l36 : K.lookup f36 = some ⟨oc36, od36, .func (PySem.W.fnOf "law" "law" (defArgs s_law) (defBody s_law) (defScope s_law) .none kV36 dc36 pm36 an36 cd36 ct36), sl36⟩) (c36 : PySem.W.codeIn K cd36 "law" = true) (k36 : PySem.W.keepIn K (.ref f36) = true)
    (ga_NoPlace : PySem.W.nsIn K mainGlobals "NoPlace" = some (some (.ref C_NoPlace))) (gx_NoPlace : PySem.W.excIn K C_NoPlace [.type "ValueError", .type "Exception", .type "BaseException", .type "object"] "ValueError.__new__" = true) (gk_NoPlace : PySem.W.keepIn K (.ref C_NoPlace) = true) (gb_NoPlace : PySem.W.subIn K (.ref C_NoPlace) (.type "BaseException") = some true) (gt_NoPlace : PySem.W.typeIn K (.ref C_NoPlace) = some (.type "type"))
    (ga_NoRule : PySem.W.nsIn K mainGlobals "NoRule" = some (some (.ref C_NoRule))) (gx_NoRule : PySem.W.excIn K C_NoRule [.type "ValueError", .type "Exception", .type "BaseException", .type "object"] "ValueError.__new__" = true) (gk_NoRule : PySem.W.keepIn K (.ref C_NoRule) = true) (gb_NoRule : PySem.W.subIn K (.ref C_NoRule) (.type "BaseException") = some true) (gt_NoRule : PySem.W.typeIn K (.ref C_NoRule) = some (.type "type"))
    (ga_SeatError : PySem.W.nsIn K mainGlobals "SeatError" = some (some (.ref C_SeatError)))
    (xd_SeatError : PySem.W.hasDictIn K C_SeatError = true)
    (xt_SeatError : PySem.W.typeIn K (.ref C_SeatError) = some (.type "type"))
    (xn_SeatError : PySem.W.subIn K (.type "NoneType") (.ref C_SeatError) = some false)
    (xb_SeatError : PySem.W.subIn K (.ref C_SeatError) (.type "BaseException") = some true)
    (xs_SeatError_SeatError : PySem.W.subIn K (.ref C_SeatError) (.ref C_SeatError) = some true)
    (xd_NoPlace : PySem.W.hasDictIn K C_NoPlace = true)
    (xt_NoPlace : PySem.W.typeIn K (.ref C_NoPlace) = some (.type "type"))
    (xn_NoPlace : PySem.W.subIn K (.type "NoneType") (.ref C_NoPlace) = some false)
    (xb_NoPlace : PySem.W.subIn K (.ref C_NoPlace) (.type "BaseException") = some true)
    (xs_NoPlace_NoPlace : PySem.W.subIn K (.ref C_NoPlace) (.ref C_NoPlace) = some true)
    (xd_NoRule : PySem.W.hasDictIn K C_NoRule = true)
    (xt_NoRule : PySem.W.typeIn K (.ref C_NoRule) = some (.type "type"))
    (xn_NoRule : PySem.W.subIn K (.type "NoneType") (.ref C_NoRule) = some false)
    (xb_NoRule : PySem.W.subIn K (.ref C_NoRule) (.type "BaseException") = some true)
    (xs_NoRule_NoRule : PySem.W.subIn K (.ref C_NoRule) (.ref C_NoRule) = some true)
    (ga_NoForm : PySem.W.nsIn K mainGlobals "NoForm" = some (some (.ref C_NoForm)))
    (xd_NoForm : PySem.W.hasDictIn K C_NoForm = true)
    (xt_NoForm : PySem.W.typeIn K (.ref C_NoForm) = some (.type "type"))
    (xn_NoForm : PySem.W.subIn K (.type "NoneType") (.ref C_NoForm) = some false)
    (xb_NoForm : PySem.W.subIn K (.ref C_NoForm) (.type "BaseException") = some true)
    (xs_NoForm_NoForm : PySem.W.subIn K (.ref C_NoForm) (.ref C_NoForm) = some true)
    (ga_NoLength : PySem.W.nsIn K mainGlobals "NoLength" = some (some (.ref C_NoLength)))
    (xd_NoLength : PySem.W.hasDictIn K C_NoLength = true)
    (xt_NoLength : PySem.W.typeIn K (.ref C_NoLength) = some (.type "type"))
    (xn_NoLength : PySem.W.subIn K (.type "NoneType") (.ref C_NoLength) = some false)
    (xb_NoLength : PySem.W.subIn K (.ref C_NoLength) (.type "BaseException") = some true)
    (xs_NoLength_NoLength : PySem.W.subIn K (.ref C_NoLength) (.ref C_NoLength) = some true)
    (ga_NoName : PySem.W.nsIn K mainGlobals "NoName" = some (some (.ref C_NoName)))
    (xd_NoName : PySem.W.hasDictIn K C_NoName = true)
    (xt_NoName : PySem.W.typeIn K (.ref C_NoName) = some (.type "type"))
    (xn_NoName : PySem.W.subIn K (.type "NoneType") (.ref C_NoName) = some false)
    (xb_NoName : PySem.W.subIn K (.ref C_NoName) (.type "BaseException") = some true)
    (xs_NoName_NoName : PySem.W.subIn K (.ref C_NoName) (.ref C_NoName) = some true)
    (ga_NoOrder : PySem.W.nsIn K mainGlobals "NoOrder" = some (some (.ref C_NoOrder)))
    (xd_NoOrder : PySem.W.hasDictIn K C_NoOrder = true)
    (xt_NoOrder : PySem.W.typeIn K (.ref C_NoOrder) = some (.type "type"))
    (xn_NoOrder : PySem.W.subIn K (.type "NoneType") (.ref C_NoOrder) = some false)
    (xb_NoOrder : PySem.W.subIn K (.ref C_NoOrder) (.type "BaseException") = some true)
    (xs_NoOrder_NoOrder : PySem.W.subIn K (.ref C_NoOrder) (.ref C_NoOrder) = some true)
    (ga_NoPaper : PySem.W.nsIn K mainGlobals "NoPaper" = some (some (.ref C_NoPaper)))
    (xd_NoPaper : PySem.W.hasDictIn K C_NoPaper = true)
    (xt_NoPaper : PySem.W.typeIn K (.ref C_NoPaper) = some (.type "type"))
    (xn_NoPaper : PySem.W.subIn K (.type "NoneType") (.ref C_NoPaper) = some false)
    (xb_NoPaper : PySem.W.subIn K (.ref C_NoPaper) (.type "BaseException") = some true)
    (xs_NoPaper_NoPaper : PySem.W.subIn K (.ref C_NoPaper) (.ref C_NoPaper) = some true)
    (ga_NoText : PySem.W.nsIn K mainGlobals "NoText" = some (some (.ref C_NoText)))
    (xd_NoText : PySem.W.hasDictIn K C_NoText = true)
    (xt_NoText : PySem.W.typeIn K (.ref C_NoText) = some (.type "type"))
    (xn_NoText : PySem.W.subIn K (.type "NoneType") (.ref C_NoText) = some false)
    (xb_NoText : PySem.W.subIn K (.ref C_NoText) (.type "BaseException") = some true)
    (xs_NoText_NoText : PySem.W.subIn K (.ref C_NoText) (.ref C_NoText) = some true)
    (ga_NoTie : PySem.W.nsIn K mainGlobals "NoTie" = some (some (.ref C_NoTie)))
    (xd_NoTie : PySem.W.hasDictIn K C_NoTie = true)
    (xt_NoTie : PySem.W.typeIn K (.ref C_NoTie) = some (.type "type"))
    (xn_NoTie : PySem.W.subIn K (.type "NoneType") (.ref C_NoTie) = some false)
    (xb_NoTie : PySem.W.subIn K (.ref C_NoTie) (.type "BaseException") = some true)
    (xs_NoTie_NoTie : PySem.W.subIn K (.ref C_NoTie) (.ref C_NoTie) = some true)
    (ga_NoTree : PySem.W.nsIn K mainGlobals "NoTree" = some (some (.ref C_NoTree)))
    (xd_NoTree : PySem.W.hasDictIn K C_NoTree = true)
    (xt_NoTree : PySem.W.typeIn K (.ref C_NoTree) = some (.type "type"))
    (xn_NoTree : PySem.W.subIn K (.type "NoneType") (.ref C_NoTree) = some false)
    (xb_NoTree : PySem.W.subIn K (.ref C_NoTree) (.type "BaseException") = some true)
    (xs_NoTree_NoTree : PySem.W.subIn K (.ref C_NoTree) (.ref C_NoTree) = some true)
    (xg_NoPlace : PySem.W.findIn K (.ref C_NoPlace) "__getattribute__" = some (some (.builtin "BaseException.__getattribute__")))
    (xk_NoPlace : PySem.W.findIn K (.ref C_NoPlace) "__getattr__" = some none)
    (xc_NoPlace : PySem.W.findIn K (.ref C_NoPlace) "__class__" = some (some (.builtin "object.__class__")))
    (xm_NoPlace : PySem.W.mroIn K C_NoPlace (.type "object") = some true)
    (xv_NoPlace : PySem.W.subIn K (.ref C_NoPlace) (.type "ValueError") = some true)
    (xs_NoPlace_SeatError : PySem.W.subIn K (.ref C_NoPlace) (.ref C_SeatError) = some true)
    (xs_NoPlace_NoRule : PySem.W.subIn K (.ref C_NoPlace) (.ref C_NoRule) = some false)
    (xs_NoPlace_NoForm : PySem.W.subIn K (.ref C_NoPlace) (.ref C_NoForm) = some false)
    (xs_NoPlace_NoLength : PySem.W.subIn K (.ref C_NoPlace) (.ref C_NoLength) = some false)
    (xs_NoPlace_NoName : PySem.W.subIn K (.ref C_NoPlace) (.ref C_NoName) = some false)
    (xs_NoPlace_NoOrder : PySem.W.subIn K (.ref C_NoPlace) (.ref C_NoOrder) = some false)
    (xs_NoPlace_NoPaper : PySem.W.subIn K (.ref C_NoPlace) (.ref C_NoPaper) = some false)
    (xs_NoPlace_NoText : PySem.W.subIn K (.ref C_NoPlace) (.ref C_NoText) = some false)
    (xs_NoPlace_NoTie : PySem.W.subIn K (.ref C_NoPlace) (.ref C_NoTie) = some false)
    (xs_NoPlace_NoTree : PySem.W.subIn K (.ref C_NoPlace) (.ref C_NoTree) = some false)
    (xg_NoRule : PySem.W.findIn K (.ref C_NoRule) "__getattribute__" = some (some (.builtin "BaseException.__getattribute__")))
    (xk_NoRule : PySem.W.findIn K (.ref C_NoRule) "__getattr__" = some none)
    (xc_NoRule : PySem.W.findIn K (.ref C_NoRule) "__class__" = some (some (.builtin "object.__class__")))
    (xm_NoRule : PySem.W.mroIn K C_NoRule (.type "object") = some true)
    (xv_NoRule : PySem.W.subIn K (.ref C_NoRule) (.type "ValueError") = some true)
    (xs_NoRule_SeatError : PySem.W.subIn K (.ref C_NoRule) (.ref C_SeatError) = some true)
    (xs_NoRule_NoPlace : PySem.W.subIn K (.ref C_NoRule) (.ref C_NoPlace) = some false)
    (xs_NoRule_NoForm : PySem.W.subIn K (.ref C_NoRule) (.ref C_NoForm) = some false)
    (xs_NoRule_NoLength : PySem.W.subIn K (.ref C_NoRule) (.ref C_NoLength) = some false)
    (xs_NoRule_NoName : PySem.W.subIn K (.ref C_NoRule) (.ref C_NoName) = some false)
    (xs_NoRule_NoOrder : PySem.W.subIn K (.ref C_NoRule) (.ref C_NoOrder) = some false)
    (xs_NoRule_NoPaper : PySem.W.subIn K (.ref C_NoRule) (.ref C_NoPaper) = some false)
    (xs_NoRule_NoText : PySem.W.subIn K (.ref C_NoRule) (.ref C_NoText) = some false)
    (xs_NoRule_NoTie : PySem.W.subIn K (.ref C_NoRule) (.ref C_NoTie) = some false)
    (xs_NoRule_NoTree : PySem.W.subIn K (.ref C_NoRule) (.ref C_NoTree) = some false)
    (xh1 : PySem.W.specialIn K (.builtin "object.__class__") "__get__" = some (some (.builtin "getset_descriptor.__get__")))
    (xh2 : PySem.W.takesIn K (.builtin "object.__class__") = some true)
    (zc_MOST : PySem.W.nsIn K mainGlobals "MOST" = some (some (.int 3 tk_MOST)))
    (z_ValueError : PySem.W.nsIn K mainGlobals "ValueError" = some none)
    (z_dict : PySem.W.nsIn K mainGlobals "dict" = some none)
    (z_enumerate : PySem.W.nsIn K mainGlobals "enumerate" = some none)
    (z_isinstance : PySem.W.nsIn K mainGlobals "isinstance" = some none)
    (z_len : PySem.W.nsIn K mainGlobals "len" = some none)
    (z_list : PySem.W.nsIn K mainGlobals "list" = some none)
    (z_max : PySem.W.nsIn K mainGlobals "max" = some none)
    (z_min : PySem.W.nsIn K mainGlobals "min" = some none)
    (z_range : PySem.W.nsIn K mainGlobals "range" = some none)
    (z_sorted : PySem.W.nsIn K mainGlobals "sorted" = some none) :
    ∃ fd : FuncData, (∀ (s : Shared) (v : Value), BindsTo s fd ⟨[v], []⟩ [("script", v)]) ∧ ∀ base : Heap, K.In base → base.Ns mainGlobals mg → FnOk P w K mg base (L2.CX P w) 80 fa fd ["script"] (sp_law K) := by
  have e := hfa.symm.trans (PySem.W.mg_of X G a36)
  cases e
  have nb : Nb mg := ⟨PySem.W.mg_none_of X G z_ValueError, PySem.W.mg_none_of X G z_dict, PySem.W.mg_none_of X G z_enumerate, PySem.W.mg_none_of X G z_isinstance, PySem.W.mg_none_of X G z_len, PySem.W.mg_none_of X G z_list, PySem.W.mg_none_of X G z_max, PySem.W.mg_none_of X G z_min, PySem.W.mg_none_of X G z_range, PySem.W.mg_none_of X G z_sorted, ⟨_, PySem.W.mg_of X G zc_MOST, ⟨_, rfl⟩⟩⟩
  have E_NoPlace : ∃ C, Xc K mg "NoPlace" C := ⟨C_NoPlace, PySem.W.mg_of X G ga_NoPlace, gx_NoPlace, gk_NoPlace, gb_NoPlace, gt_NoPlace⟩
  have E_NoRule : ∃ C, Xc K mg "NoRule" C := ⟨C_NoRule, PySem.W.mg_of X G ga_NoRule, gx_NoRule, gk_NoRule, gb_NoRule, gt_NoRule⟩
  have EX : ExAll K mg := ⟨C_SeatError, C_NoPlace, C_NoRule, C_NoForm, C_NoLength, C_NoName, C_NoOrder, C_NoPaper, C_NoText, C_NoTie, C_NoTree, PySem.W.mg_of X G ga_SeatError, xd_SeatError, xt_SeatError, xn_SeatError, xb_SeatError, xs_SeatError_SeatError, PySem.W.mg_of X G ga_NoPlace, xd_NoPlace, xt_NoPlace, xn_NoPlace, xb_NoPlace, xs_NoPlace_NoPlace, PySem.W.mg_of X G ga_NoRule, xd_NoRule, xt_NoRule, xn_NoRule, xb_NoRule, xs_NoRule_NoRule, PySem.W.mg_of X G ga_NoForm, xd_NoForm, xt_NoForm, xn_NoForm, xb_NoForm, xs_NoForm_NoForm, PySem.W.mg_of X G ga_NoLength, xd_NoLength, xt_NoLength, xn_NoLength, xb_NoLength, xs_NoLength_NoLength, PySem.W.mg_of X G ga_NoName, xd_NoName, xt_NoName, xn_NoName, xb_NoName, xs_NoName_NoName, PySem.W.mg_of X G ga_NoOrder, xd_NoOrder, xt_NoOrder, xn_NoOrder, xb_NoOrder, xs_NoOrder_NoOrder, PySem.W.mg_of X G ga_NoPaper, xd_NoPaper, xt_NoPaper, xn_NoPaper, xb_NoPaper, xs_NoPaper_NoPaper, PySem.W.mg_of X G ga_NoText, xd_NoText, xt_NoText, xn_NoText, xb_NoText, xs_NoText_NoText, PySem.W.mg_of X G ga_NoTie, xd_NoTie, xt_NoTie, xn_NoTie, xb_NoTie, xs_NoTie_NoTie, PySem.W.mg_of X G ga_NoTree, xd_NoTree, xt_NoTree, xn_NoTree, xb_NoTree, xs_NoTree_NoTree, ⟨xg_NoPlace, xk_NoPlace, xb_NoPlace, xd_NoPlace, xc_NoPlace, xh1, xh2, xm_NoPlace⟩, xv_NoPlace, xs_NoPlace_SeatError, xs_NoPlace_NoRule, xs_NoPlace_NoForm, xs_NoPlace_NoLength, xs_NoPlace_NoName, xs_NoPlace_NoOrder, xs_NoPlace_NoPaper, xs_NoPlace_NoText, xs_NoPlace_NoTie, xs_NoPlace_NoTree, ⟨xg_NoRule, xk_NoRule, xb_NoRule, xd_NoRule, xc_NoRule, xh1, xh2, xm_NoRule⟩, xv_NoRule, xs_NoRule_SeatError, xs_NoRule_NoPlace, xs_NoRule_NoForm, xs_NoRule_NoLength, xs_NoRule_NoName, xs_NoRule_NoOrder, xs_NoRule_NoPaper, xs_NoRule_NoText, xs_NoRule_NoTie, xs_NoRule_NoTree⟩
  have F1 := fun_mk (x := "may_stand") (st := s_may_stand) l1 c1 k1
  have D_may_stand : Df K mg "may_stand" "may_stand" s_may_stand ["told", "leaves", "many"] := ⟨_, _, F1, PySem.W.mg_of X G a1, F1.binds (ps := ["told", "leaves", "many"]) fun _ _ _ _ _ _ us hl => match us, hl with | [_, _, _], _ => rfl⟩
  have F2 := fun_mk (x := "is_rule") (st := s_is_rule) l2 c2 k2
  have D_is_rule : Df K mg "is_rule" "is_rule" s_is_rule ["thing"] := ⟨_, _, F2, PySem.W.mg_of X G a2, F2.binds (ps := ["thing"]) fun _ _ _ _ _ _ us hl => match us, hl with | [_], _ => rfl⟩
  have F3 := fun_mk (x := "need_rule") (st := s_need_rule) l3 c3 k3
  have D_need_rule : Df K mg "need_rule" "need_rule" s_need_rule ["rule"] := ⟨_, _, F3, PySem.W.mg_of X G a3, F3.binds (ps := ["rule"]) fun _ _ _ _ _ _ us hl => match us, hl with | [_], _ => rfl⟩
  have F4 := fun_mk (x := "sum_at") (st := s_sum_at) l4 c4 k4
  have D_sum_at : Df K mg "sum_at" "sum_at" s_sum_at ["sum_told", "own", "tie", "so", "more"] := ⟨_, _, F4, PySem.W.mg_of X G a4, F4.binds (ps := ["sum_told", "own", "tie", "so", "more"]) fun _ _ _ _ _ _ us hl => match us, hl with | [_, _, _, _, _], _ => rfl⟩
  have F5 := fun_mk (x := "begun") (st := s_begun) l5 c5 k5
  have D_begun : Df K mg "begun" "begun" s_begun ["rule", "own"] := ⟨_, _, F5, PySem.W.mg_of X G a5, F5.binds (ps := ["rule", "own"]) fun _ _ _ _ _ _ us hl => match us, hl with | [_, _], _ => rfl⟩
  have F6 := fun_mk (x := "joined") (st := s_joined) l6 c6 k6
  have D_joined : Df K mg "joined" "joined" s_joined ["rule", "so", "more", "own"] := ⟨_, _, F6, PySem.W.mg_of X G a6, F6.binds (ps := ["rule", "so", "more", "own"]) fun _ _ _ _ _ _ us hl => match us, hl with | [_, _, _, _], _ => rfl⟩
  have F7 := fun_mk (x := "over_tie") (st := s_over_tie) l7 c7 k7
  have D_over_tie : Df K mg "over_tie" "over_tie" s_over_tie ["rule", "more", "own", "tie"] := ⟨_, _, F7, PySem.W.mg_of X G a7, F7.binds (ps := ["rule", "more", "own", "tie"]) fun _ _ _ _ _ _ us hl => match us, hl with | [_, _, _, _], _ => rfl⟩
  have F8 := fun_mk (x := "told_by") (st := s_told_by) l8 c8 k8
  have D_told_by : Df K mg "told_by" "told_by" s_told_by ["rule", "so", "own"] := ⟨_, _, F8, PySem.W.mg_of X G a8, F8.binds (ps := ["rule", "so", "own"]) fun _ _ _ _ _ _ us hl => match us, hl with | [_, _, _], _ => rfl⟩
  have F9 := fun_mk (x := "tied_places") (st := s_tied_places) l9 c9 k9
  have D_tied_places : Df K mg "tied_places" "tied_places" s_tied_places ["many", "ties"] := ⟨_, _, F9, PySem.W.mg_of X G a9, F9.binds (ps := ["many", "ties"]) fun _ _ _ _ _ _ us hl => match us, hl with | [_, _], _ => rfl⟩
  have F10 := fun_mk (x := "need_place") (st := s_need_place) l10 c10 k10
  have D_need_place : Df K mg "need_place" "need_place" s_need_place ["tree", "place"] := ⟨_, _, F10, PySem.W.mg_of X G a10, F10.binds (ps := ["tree", "place"]) fun _ _ _ _ _ _ us hl => match us, hl with | [_, _], _ => rfl⟩
  have F11 := fun_mk (x := "lengths_of") (st := s_lengths_of) l11 c11 k11
  have D_lengths_of : Df K mg "lengths_of" "lengths_of" s_lengths_of ["tree"] := ⟨_, _, F11, PySem.W.mg_of X G a11, F11.binds (ps := ["tree"]) fun _ _ _ _ _ _ us hl => match us, hl with | [_], _ => rfl⟩
  have F12 := fun_mk (x := "every_branch") (st := s_every_branch) l12 c12 k12
  have D_every_branch : Df K mg "every_branch" "every_branch" s_every_branch ["tree"] := ⟨_, _, F12, PySem.W.mg_of X G a12, F12.binds (ps := ["tree"]) fun _ _ _ _ _ _ us hl => match us, hl with | [_], _ => rfl⟩
  have F13 := fun_mk (x := "row_with") (st := s_row_with) l13 c13 k13
  have D_row_with : Df K mg "row_with" "row_with" s_row_with ["tree", "rule", "place", "near"] := ⟨_, _, F13, PySem.W.mg_of X G a13, F13.binds (ps := ["tree", "rule", "place", "near"]) fun _ _ _ _ _ _ us hl => match us, hl with | [_, _, _, _], _ => rfl⟩
  have F14 := fun_mk (x := "row_down") (st := s_row_down) l14 c14 k14
  have D_row_down : Df K mg "row_down" "row_down" s_row_down ["tree", "rule", "near", "lengths", "branch"] := ⟨_, _, F14, PySem.W.mg_of X G a14, F14.binds (ps := ["tree", "rule", "near", "lengths", "branch"]) fun _ _ _ _ _ _ us hl => match us, hl with | [_, _, _, _, _], _ => rfl⟩
  have F15 := fun_mk (x := "branch_row") (st := s_branch_row) l15 c15 k15
  have D_branch_row : Df K mg "branch_row" "branch_row" s_branch_row ["tree", "rule", "branch"] := ⟨_, _, F15, PySem.W.mg_of X G a15, F15.binds (ps := ["tree", "rule", "branch"]) fun _ _ _ _ _ _ us hl => match us, hl with | [_, _, _], _ => rfl⟩
  have F16 := fun_mk (x := "seat_worth") (st := s_seat_worth) l16 c16 k16
  have D_seat_worth : Df K mg "seat_worth" "seat_worth" s_seat_worth ["tree", "rule", "place"] := ⟨_, _, F16, PySem.W.mg_of X G a16, F16.binds (ps := ["tree", "rule", "place"]) fun _ _ _ _ _ _ us hl => match us, hl with | [_, _, _], _ => rfl⟩
  have F17 := fun_mk (x := "order_of") (st := s_order_of) l17 c17 k17
  have D_order_of : Df K mg "order_of" "order_of" s_order_of ["near", "branches"] := ⟨_, _, F17, PySem.W.mg_of X G a17, F17.binds (ps := ["near", "branches"]) fun _ _ _ _ _ _ us hl => match us, hl with | [_, _], _ => rfl⟩
  have F18 := fun_mk (x := "rows_known") (st := s_rows_known) l18 c18 k18
  have D_rows_known : Df K mg "rows_known" "rows_known" s_rows_known ["tree", "rule"] := ⟨_, _, F18, PySem.W.mg_of X G a18, F18.binds (ps := ["tree", "rule"]) fun _ _ _ _ _ _ us hl => match us, hl with | [_, _], _ => rfl⟩
  have F19 := fun_mk (x := "seats_by") (st := s_seats_by) l19 c19 k19
  have D_seats_by : Df K mg "seats_by" "seats_by" s_seats_by ["tree", "rule", "rows"] := ⟨_, _, F19, PySem.W.mg_of X G a19, F19.binds (ps := ["tree", "rule", "rows"]) fun _ _ _ _ _ _ us hl => match us, hl with | [_, _, _], _ => rfl⟩
  have F20 := fun_mk (x := "all_rows") (st := s_all_rows) l20 c20 k20
  have D_all_rows : Df K mg "all_rows" "all_rows" s_all_rows ["tree", "rule"] := ⟨_, _, F20, PySem.W.mg_of X G a20, F20.binds (ps := ["tree", "rule"]) fun _ _ _ _ _ _ us hl => match us, hl with | [_, _], _ => rfl⟩
  have F21 := fun_mk (x := "all_seats") (st := s_all_seats) l21 c21 k21
  have D_all_seats : Df K mg "all_seats" "all_seats" s_all_seats ["tree", "rule"] := ⟨_, _, F21, PySem.W.mg_of X G a21, F21.binds (ps := ["tree", "rule"]) fun _ _ _ _ _ _ us hl => match us, hl with | [_, _], _ => rfl⟩
  have F22 := fun_mk (x := "best_seats") (st := s_best_seats) l22 c22 k22
  have D_best_seats : Df K mg "best_seats" "best_seats" s_best_seats ["tree", "rule"] := ⟨_, _, F22, PySem.W.mg_of X G a22, F22.binds (ps := ["tree", "rule"]) fun _ _ _ _ _ _ us hl => match us, hl with | [_, _], _ => rfl⟩
  have F23 := fun_mk (x := "least_seats") (st := s_least_seats) l23 c23 k23
  have D_least_seats : Df K mg "least_seats" "least_seats" s_least_seats ["tree", "rule"] := ⟨_, _, F23, PySem.W.mg_of X G a23, F23.binds (ps := ["tree", "rule"]) fun _ _ _ _ _ _ us hl => match us, hl with | [_, _], _ => rfl⟩
  have F24 := fun_mk (x := "_law_stir") (st := s_law_stir) l24 c24 k24
  have D_law_stir : Df K mg "_law_stir" "_law_stir" s_law_stir ["cell", "k"] := ⟨_, _, F24, PySem.W.mg_of X G a24, F24.binds (ps := ["cell", "k"]) fun _ _ _ _ _ _ us hl => match us, hl with | [_, _], _ => rfl⟩
  have F25 := fun_mk (x := "_law_deck") (st := s_law_deck) l25 c25 k25
  have D_law_deck : Df K mg "_law_deck" "_law_deck" s_law_deck ["cell"] := ⟨_, _, F25, PySem.W.mg_of X G a25, F25.binds (ps := ["cell"]) fun _ _ _ _ _ _ us hl => match us, hl with | [_], _ => rfl⟩
  have F26 := fun_mk (x := "_law_take") (st := s_law_take) l26 c26 k26
  have D_law_take : Df K mg "_law_take" "_law_take" s_law_take ["deck", "many"] := ⟨_, _, F26, PySem.W.mg_of X G a26, F26.binds (ps := ["deck", "many"]) fun _ _ _ _ _ _ us hl => match us, hl with | [_, _], _ => rfl⟩
  have F27 := fun_mk (x := "_law_number") (st := s_law_number) l27 c27 k27
  have D_law_number : Df K mg "_law_number" "_law_number" s_law_number ["deck", "far"] := ⟨_, _, F27, PySem.W.mg_of X G a27, F27.binds (ps := ["deck", "far"]) fun _ _ _ _ _ _ us hl => match us, hl with | [_, _], _ => rfl⟩
  have F28 := fun_mk (x := "_law_order") (st := s_law_order) l28 c28 k28
  have D_law_order : Df K mg "_law_order" "_law_order" s_law_order ["deck", "many"] := ⟨_, _, F28, PySem.W.mg_of X G a28, F28.binds (ps := ["deck", "many"]) fun _ _ _ _ _ _ us hl => match us, hl with | [_, _], _ => rfl⟩
  have F29 := fun_mk (x := "_law_tree") (st := s_law_tree) l29 c29 k29
  have D_law_tree : Df K mg "_law_tree" "_law_tree" s_law_tree ["deck", "most", "far"] := ⟨_, _, F29, PySem.W.mg_of X G a29, F29.binds (ps := ["deck", "most", "far"]) fun _ _ _ _ _ _ us hl => match us, hl with | [_, _, _], _ => rfl⟩
  have F30 := fun_mk (x := "_law_leaf") (st := s_law_leaf) l30 c30 k30
  have D_law_leaf : Df K mg "_law_leaf" "_law_leaf" s_law_leaf ["deck", "leaves", "many"] := ⟨_, _, F30, PySem.W.mg_of X G a30, F30.binds (ps := ["deck", "leaves", "many"]) fun _ _ _ _ _ _ us hl => match us, hl with | [_, _, _], _ => rfl⟩
  have F31 := fun_mk (x := "_law_sum") (st := s_law_sum) l31 c31 k31
  have D_law_sum : Df K mg "_law_sum" "_law_sum" s_law_sum ["deck", "leaves", "many", "deep", "times"] := ⟨_, _, F31, PySem.W.mg_of X G a31, F31.binds (ps := ["deck", "leaves", "many", "deep", "times"]) fun _ _ _ _ _ _ us hl => match us, hl with | [_, _, _, _, _], _ => rfl⟩
  have F32 := fun_mk (x := "_law_rule") (st := s_law_rule) l32 c32 k32
  have D_law_rule : Df K mg "_law_rule" "_law_rule" s_law_rule ["deck", "times"] := ⟨_, _, F32, PySem.W.mg_of X G a32, F32.binds (ps := ["deck", "times"]) fun _ _ _ _ _ _ us hl => match us, hl with | [_, _], _ => rfl⟩
  have F33 := fun_mk (x := "_law_asked") (st := s_law_asked) l33 c33 k33
  have D_law_asked : Df K mg "_law_asked" "_law_asked" s_law_asked ["tree", "rule", "place", "way"] := ⟨_, _, F33, PySem.W.mg_of X G a33, F33.binds (ps := ["tree", "rule", "place", "way"]) fun _ _ _ _ _ _ us hl => match us, hl with | [_, _, _, _], _ => rfl⟩
  have F34 := fun_mk (x := "_law_refused") (st := s_law_refused) l34 c34 k34
  have D_law_refused : Df K mg "_law_refused" "_law_refused" s_law_refused ["tree", "rule", "place", "way"] := ⟨_, _, F34, PySem.W.mg_of X G a34, F34.binds (ps := ["tree", "rule", "place", "way"]) fun _ _ _ _ _ _ us hl => match us, hl with | [_, _, _, _], _ => rfl⟩
  have F35 := fun_mk (x := "_law_bad_rule") (st := s_law_bad_rule) l35 c35 k35
  have D_law_bad_rule : Df K mg "_law_bad_rule" "_law_bad_rule" s_law_bad_rule ["deck", "rule"] := ⟨_, _, F35, PySem.W.mg_of X G a35, F35.binds (ps := ["deck", "rule"]) fun _ _ _ _ _ _ us hl => match us, hl with | [_, _], _ => rfl⟩
  have F36 := fun_mk (x := "law") (st := s_law) l36 c36 k36
  refine ⟨PySem.W.fnOf "law" "law" (defArgs s_law) (defBody s_law) (defScope s_law) .none kV36 dc36 pm36 an36 cd36 ct36, fun s v => .of_eq rfl, fun base _ _ => ?_⟩
  have C_may_stand : Ca P w K mg base "may_stand" 61 ["told", "leaves", "many"] (sp_may_stand 60 mg) := ok_may_stand nb  D_may_stand 60
  have C_is_rule : Ca P w K mg base "is_rule" 62 ["thing"] (sp_is_rule mg) := ok_is_rule nb C_may_stand  D_is_rule
  have C_need_rule : Ca P w K mg base "need_rule" 63 ["rule"] (sp_need_rule mg) := ok_need_rule nb C_is_rule E_NoRule  D_need_rule
  have C_sum_at : Ca P w K mg base "sum_at" 13 ["sum_told", "own", "tie", "so", "more"] (sp_sum_at 12 mg) := ok_sum_at nb  D_sum_at 12
  have C_begun : Ca P w K mg base "begun" 14 ["rule", "own"] (sp_begun mg) := ok_begun nb C_sum_at  D_begun
  have C_joined : Ca P w K mg base "joined" 14 ["rule", "so", "more", "own"] (sp_joined mg) := ok_joined nb C_sum_at  D_joined
  have C_over_tie : Ca P w K mg base "over_tie" 14 ["rule", "more", "own", "tie"] (sp_over_tie mg) := ok_over_tie nb C_sum_at  D_over_tie
  have C_told_by : Ca P w K mg base "told_by" 14 ["rule", "so", "own"] (sp_told_by mg) := ok_told_by nb C_sum_at  D_told_by
  have C_tied_places := ok_tied_places (P := P) (w := w) (base := base) nb D_tied_places
  have CO_tied_places := ok_tied_places_own (P := P) (w := w) (base := base) nb D_tied_places
  have C_need_place : Ca P w K mg base "need_place" 1 ["tree", "place"] (sp_need_place mg) := ok_need_place nb E_NoPlace  D_need_place
  have C_lengths_of : Ca P w K mg base "lengths_of" 1 ["tree"] (sp_lengths_of mg) := ok_lengths_of nb  D_lengths_of
  have C_every_branch : Ca P w K mg base "every_branch" 2 ["tree"] (sp_every_branch mg) := ok_every_branch nb C_lengths_of  D_every_branch
  have C_row_with : Ca P w K mg base "row_with" 15 ["tree", "rule", "place", "near"] (sp_row_with mg) := ok_row_with nb C_begun C_joined  D_row_with
  have C_row_down : Ca P w K mg base "row_down" 76 ["tree", "rule", "near", "lengths", "branch"] (sp_row_down 60 mg) := ok_row_down nb C_over_tie C_row_with  D_row_down 60
  have C_branch_row : Ca P w K mg base "branch_row" 77 ["tree", "rule", "branch"] (sp_branch_row mg) := ok_branch_row nb C_lengths_of C_need_rule C_row_down C_tied_places E_NoPlace  D_branch_row
  have C_seat_worth : Ca P w K mg base "seat_worth" 77 ["tree", "rule", "place"] (sp_seat_worth mg) := ok_seat_worth nb C_lengths_of C_need_place C_need_rule C_row_down C_row_with C_tied_places C_told_by  D_seat_worth
  have C_order_of : Ca P w K mg base "order_of" 1 ["near", "branches"] (sp_order_of mg) := ok_order_of nb  D_order_of
  have C_rows_known : Ca P w K mg base "rows_known" 16 ["tree", "rule"] (sp_rows_known mg) := ok_rows_known nb C_every_branch C_lengths_of C_order_of C_over_tie C_row_with C_tied_places  D_rows_known
  have C_seats_by : Ca P w K mg base "seats_by" 16 ["tree", "rule", "rows"] (sp_seats_by mg) := ok_seats_by nb C_row_with C_tied_places C_told_by  D_seats_by
  have C_all_rows : Ca P w K mg base "all_rows" 64 ["tree", "rule"] (sp_all_rows mg) := ok_all_rows nb C_every_branch C_need_rule C_rows_known  D_all_rows
  have C_all_seats : Ca P w K mg base "all_seats" 64 ["tree", "rule"] (sp_all_seats mg) := ok_all_seats nb C_need_rule C_rows_known C_seats_by  D_all_seats
  have C_best_seats : Ca P w K mg base "best_seats" 65 ["tree", "rule"] (sp_best_seats mg) := ok_best_seats nb C_all_seats  D_best_seats
  have C_least_seats : Ca P w K mg base "least_seats" 65 ["tree", "rule"] (sp_least_seats mg) := ok_least_seats nb C_all_seats  D_least_seats
  have C_law_stir : Ca P w K mg base "_law_stir" 1 ["cell", "k"] (sp_law_stir mg) := ok_law_stir nb  D_law_stir
  have C_law_deck : Ca P w K mg base "_law_deck" 2 ["cell"] (sp_law_deck mg) := ok_law_deck nb C_law_stir  D_law_deck
  have C_law_take : Ca P w K mg base "_law_take" 1 ["deck", "many"] (sp_law_take mg) := ok_law_take nb  D_law_take
  have C_law_number : Ca P w K mg base "_law_number" 2 ["deck", "far"] (sp_law_number mg) := ok_law_number nb C_law_take  D_law_number
  have C_law_order : Ca P w K mg base "_law_order" 2 ["deck", "many"] (sp_law_order mg) := ok_law_order nb C_law_take  D_law_order
  have C_law_tree : Ca P w K mg base "_law_tree" 3 ["deck", "most", "far"] (sp_law_tree mg) := ok_law_tree nb C_law_number C_law_order C_law_take  D_law_tree
  have C_law_leaf : Ca P w K mg base "_law_leaf" 2 ["deck", "leaves", "many"] (sp_law_leaf mg) := ok_law_leaf nb C_law_take  D_law_leaf
  have C_law_sum : Ca P w K mg base "_law_sum" 8 ["deck", "leaves", "many", "deep", "times"] (sp_law_sum 5 mg) := ok_law_sum nb C_law_leaf C_law_take  D_law_sum 5
  have C_law_rule : Ca P w K mg base "_law_rule" 9 ["deck", "times"] (sp_law_rule mg) := ok_law_rule nb C_law_sum C_law_take  D_law_rule
  have C_law_asked : Ca P w K mg base "_law_asked" 78 ["tree", "rule", "place", "way"] (sp_law_asked mg) := ok_law_asked nb C_all_rows C_all_seats C_best_seats C_branch_row C_least_seats C_need_rule C_seat_worth  D_law_asked
  have C_law_refused : Ca P w K mg base "_law_refused" 79 ["tree", "rule", "place", "way"] (sp_law_refused mg) := ok_law_refused nb C_law_asked EX  D_law_refused
  have C_law_bad_rule : Ca P w K mg base "_law_bad_rule" 2 ["deck", "rule"] (sp_law_bad_rule mg) := ok_law_bad_rule nb C_law_take  D_law_bad_rule
  exact ok_law nb C_law_bad_rule C_law_deck C_law_refused C_law_rule C_law_take C_law_tree C_need_rule F36
theorem walk {l : PySem.W.OpenLaw} {q : Program} {loose : List Str} {XP : (Str → Option Value) → Heap → Prop} {YP : World → Heap → Prop} {d : DefRec} {K : Params → PySem.W.Frag} (hn : l.most = some 63) (hdf : d.params.defaults = [])
    (hY : ∀ (w : World) (h : Heap), YP w h → (K w.params).In h)
    (F : ∀ (w : World) (mg : Str → Option Value) (fa : Addr) (h : Heap), (K w.params).In h → h.Ns mainGlobals mg → mg d.name = some (.ref fa) →
      ∃ fd : FuncData, (∀ (s : Shared) (u : Value), BindsTo s fd ⟨[u], []⟩ [("script", u)]) ∧ ∀ base : Heap, (K w.params).In base → base.Ns mainGlobals mg → FnOk l.prog w (K w.params) mg base (L2.CX l.prog w) 80 fa fd ["script"] (sp_law (K w.params))) :
    PySem.W.WalkO q loose XP YP l.row.toRowW d [] (fun f vs => PySem.call f vs) :=
  L2.walk_of (n := 63) (k := 80) (x := "script") (CX := fun w => L2.CX l.prog w) (sp := fun w => sp_law (K w.params)) hn (by decide) hdf ⟨rfl, by decide, by decide⟩ hY F
    (fun _ H a ns hl _ hS => ⟨H, a, ns, rfl, ⟨Same.refl _, (fun _ h => nomatch h), (fun _ h => nomatch h), List.nodup_nil, (fun _ h => nomatch h)⟩, hS, by rw [law_true ns hl]; exact fun _ _ _ => rfl⟩)
    fun _ _ _ _ _ z => by
      obtain ⟨_, _, _, _, _, _, _, _, _, _, _, _, z⟩ := z
      exact z.elim
end G
open PySem PySem.W PyProof.Rows
set_option maxRecDepth 100000 in
set_option maxHeartbeats 0 in
theorem PySem.Challenge.cw_everyseat_k11_no_rule_holds : PySem.Challenge.rw_everyseat_k11_no_rule.Holds := by
  w_on; o_law; k_head; (case hw => w_witness2)
  k_fill
  refine G.walk (l := PySem.Challenge.rw_everyseat_k11_no_rule) rfl rfl (fun w h Y => PySem.W.kIn_of Y) ?F
  case F =>
    intro w mg fa h KX GG hmg
    refine' G.all_mk KX GG hmg ?a1 ?l1 ?c1 ?k1 ?a2 ?l2 ?c2 ?k2 ?a3 ?l3 ?c3 ?k3 ?a4 ?l4 ?c4 ?k4 ?a5 ?l5 ?c5 ?k5 ?a6 ?l6 ?c6 ?k6 ?a7 ?l7 ?c7 ?k7 ?a8 ?l8 ?c8 ?k8 ?a9 ?l9 ?c9 ?k9 ?a10 ?l10 ?c10 ?k10 ?a11 ?l11 ?c11 ?k11 ?a12 ?l12 ?c12 ?k12 ?a13 ?l13 ?c13 ?k13 ?a14 ?l14 ?c14 ?k14 ?a15 ?l15 ?c15 ?k15 ?a16 ?l16 ?c16 ?k16 ?a17 ?l17 ?c17 ?k17 ?a18 ?l18 ?c18 ?k18 ?a19 ?l19 ?c19 ?k19 ?a20 ?l20 ?c20 ?k20 ?a21 ?l21 ?c21 ?k21 ?a22 ?l22 ?c22 ?k22 ?a23 ?l23 ?c23 ?k23 ?a24 ?l24 ?c24 ?k24 ?a25 ?l25 ?c25 ?k25 ?a26 ?l26 ?c26 ?k26 ?a27 ?l27 ?c27 ?k27 ?a28 ?l28 ?c28 ?k28 ?a29 ?l29 ?c29 ?k29 ?a30 ?l30 ?c30 ?k30 ?a31 ?l31 ?c31 ?k31 ?a32 ?l32 ?c32 ?k32 ?a33 ?l33 ?c33 ?k33 ?a34 ?l34 ?c34 ?k34 ?a35 ?l35 ?c35 ?k35 ?a36 ?l36 ?c36 ?k36 ?ga_NoPlace ?gx_NoPlace ?gk_NoPlace ?gb_NoPlace ?gt_NoPlace ?ga_NoRule ?gx_NoRule ?gk_NoRule ?gb_NoRule ?gt_NoRule ?ga_SeatError ?xd_SeatError ?xt_SeatError ?xn_SeatError ?xb_SeatError ?xs_SeatError_SeatError ?xd_NoPlace ?xt_NoPlace ?xn_NoPlace ?xb_NoPlace ?xs_NoPlace_NoPlace ?xd_NoRule ?xt_NoRule ?xn_NoRule ?xb_NoRule ?xs_NoRule_NoRule ?ga_NoForm ?xd_NoForm ?xt_NoForm ?xn_NoForm ?xb_NoForm ?xs_NoForm_NoForm ?ga_NoLength ?xd_NoLength ?xt_NoLength ?xn_NoLength ?xb_NoLength ?xs_NoLength_NoLength ?ga_NoName ?xd_NoName ?xt_NoName ?xn_NoName ?xb_NoName ?xs_NoName_NoName ?ga_NoOrder ?xd_NoOrder ?xt_NoOrder ?xn_NoOrder ?xb_NoOrder ?xs_NoOrder_NoOrder ?ga_NoPaper ?xd_NoPaper ?xt_NoPaper ?xn_NoPaper ?xb_NoPaper ?xs_NoPaper_NoPaper ?ga_NoText ?xd_NoText ?xt_NoText ?xn_NoText ?xb_NoText ?xs_NoText_NoText ?ga_NoTie ?xd_NoTie ?xt_NoTie ?xn_NoTie ?xb_NoTie ?xs_NoTie_NoTie ?ga_NoTree ?xd_NoTree ?xt_NoTree ?xn_NoTree ?xb_NoTree ?xs_NoTree_NoTree ?xg_NoPlace ?xk_NoPlace ?xc_NoPlace ?xm_NoPlace ?xv_NoPlace ?xs_NoPlace_SeatError ?xs_NoPlace_NoRule ?xs_NoPlace_NoForm ?xs_NoPlace_NoLength ?xs_NoPlace_NoName ?xs_NoPlace_NoOrder ?xs_NoPlace_NoPaper ?xs_NoPlace_NoText ?xs_NoPlace_NoTie ?xs_NoPlace_NoTree ?xg_NoRule ?xk_NoRule ?xc_NoRule ?xm_NoRule ?xv_NoRule ?xs_NoRule_SeatError ?xs_NoRule_NoPlace ?xs_NoRule_NoForm ?xs_NoRule_NoLength ?xs_NoRule_NoName ?xs_NoRule_NoOrder ?xs_NoRule_NoPaper ?xs_NoRule_NoText ?xs_NoRule_NoTie ?xs_NoRule_NoTree ?xh1 ?xh2 ?zc_MOST ?z_ValueError ?z_dict ?z_enumerate ?z_isinstance ?z_len ?z_list ?z_max ?z_min ?z_range ?z_sorted
    (case a1 => k_is)
    (case l1 => k_is)
    (case c1 => k_is)
    (case k1 => k_is)
    (case a2 => k_is)
    (case l2 => k_is)
    (case c2 => k_is)
    (case k2 => k_is)
    (case a3 => k_is)
    (case l3 => k_is)
    (case c3 => k_is)
    (case k3 => k_is)
    (case a4 => k_is)
    (case l4 => k_is)
    (case c4 => k_is)
    (case k4 => k_is)
    (case a5 => k_is)
    (case l5 => k_is)
    (case c5 => k_is)
    (case k5 => k_is)
    (case a6 => k_is)
    (case l6 => k_is)
    (case c6 => k_is)
    (case k6 => k_is)
    (case a7 => k_is)
    (case l7 => k_is)
    (case c7 => k_is)
    (case k7 => k_is)
    (case a8 => k_is)
    (case l8 => k_is)
    (case c8 => k_is)
    (case k8 => k_is)
    (case a9 => k_is)
    (case l9 => k_is)
    (case c9 => k_is)
    (case k9 => k_is)
    (case a10 => k_is)
    (case l10 => k_is)
    (case c10 => k_is)
    (case k10 => k_is)
    (case a11 => k_is)
    (case l11 => k_is)
    (case c11 => k_is)
    (case k11 => k_is)
    (case a12 => k_is)
    (case l12 => k_is)
    (case c12 => k_is)
    (case k12 => k_is)
    (case a13 => k_is)
    (case l13 => k_is)
    (case c13 => k_is)
    (case k13 => k_is)
    (case a14 => k_is)
    (case l14 => k_is)
    (case c14 => k_is)
    (case k14 => k_is)
    (case a15 => k_is)
    (case l15 => k_is)
    (case c15 => k_is)
    (case k15 => k_is)
    (case a16 => k_is)
    (case l16 => k_is)
    (case c16 => k_is)
    (case k16 => k_is)
    (case a17 => k_is)
    (case l17 => k_is)
    (case c17 => k_is)
    (case k17 => k_is)
    (case a18 => k_is)
    (case l18 => k_is)
    (case c18 => k_is)
    (case k18 => k_is)
    (case a19 => k_is)
    (case l19 => k_is)
    (case c19 => k_is)
    (case k19 => k_is)
    (case a20 => k_is)
    (case l20 => k_is)
    (case c20 => k_is)
    (case k20 => k_is)
    (case a21 => k_is)
    (case l21 => k_is)
    (case c21 => k_is)
    (case k21 => k_is)
    (case a22 => k_is)
    (case l22 => k_is)
    (case c22 => k_is)
    (case k22 => k_is)
    (case a23 => k_is)
    (case l23 => k_is)
    (case c23 => k_is)
    (case k23 => k_is)
    (case a24 => k_is)
    (case l24 => k_is)
    (case c24 => k_is)
    (case k24 => k_is)
    (case a25 => k_is)
    (case l25 => k_is)
    (case c25 => k_is)
    (case k25 => k_is)
    (case a26 => k_is)
    (case l26 => k_is)
    (case c26 => k_is)
    (case k26 => k_is)
    (case a27 => k_is)
    (case l27 => k_is)
    (case c27 => k_is)
    (case k27 => k_is)
    (case a28 => k_is)
    (case l28 => k_is)
    (case c28 => k_is)
    (case k28 => k_is)
    (case a29 => k_is)
    (case l29 => k_is)
    (case c29 => k_is)
    (case k29 => k_is)
    (case a30 => k_is)
    (case l30 => k_is)
    (case c30 => k_is)
    (case k30 => k_is)
    (case a31 => k_is)
    (case l31 => k_is)
    (case c31 => k_is)
    (case k31 => k_is)
    (case a32 => k_is)
    (case l32 => k_is)
    (case c32 => k_is)
    (case k32 => k_is)
    (case a33 => k_is)
    (case l33 => k_is)
    (case c33 => k_is)
    (case k33 => k_is)
    (case a34 => k_is)
    (case l34 => k_is)
    (case c34 => k_is)
    (case k34 => k_is)
    (case a35 => k_is)
    (case l35 => k_is)
    (case c35 => k_is)
    (case k35 => k_is)
    (case a36 => k_is)
    (case l36 => k_is)
    (case c36 => k_is)
    (case k36 => k_is)
    (case ga_NoPlace => k_is)
    (case gx_NoPlace => k_exc)
    (case gk_NoPlace => k_is)
    (case gb_NoPlace => k_is)
    (case gt_NoPlace => k_is)
    (case ga_NoRule => k_is)
    (case gx_NoRule => k_exc)
    (case gk_NoRule => k_is)
    (case gb_NoRule => k_is)
    (case gt_NoRule => k_is)
    (case ga_SeatError => k_is)
    (case xd_SeatError => k_is)
    (case xt_SeatError => k_is)
    (case xn_SeatError => k_is)
    (case xb_SeatError => k_is)
    (case xs_SeatError_SeatError => k_is)
    (case xd_NoPlace => k_is)
    (case xt_NoPlace => k_is)
    (case xn_NoPlace => k_is)
    (case xb_NoPlace => k_is)
    (case xs_NoPlace_NoPlace => k_is)
    (case xd_NoRule => k_is)
    (case xt_NoRule => k_is)
    (case xn_NoRule => k_is)
    (case xb_NoRule => k_is)
    (case xs_NoRule_NoRule => k_is)
    (case ga_NoForm => k_is)
    (case xd_NoForm => k_is)
    (case xt_NoForm => k_is)
    (case xn_NoForm => k_is)
    (case xb_NoForm => k_is)
    (case xs_NoForm_NoForm => k_is)
    (case ga_NoLength => k_is)
    (case xd_NoLength => k_is)
    (case xt_NoLength => k_is)
    (case xn_NoLength => k_is)
    (case xb_NoLength => k_is)
    (case xs_NoLength_NoLength => k_is)
    (case ga_NoName => k_is)
    (case xd_NoName => k_is)
    (case xt_NoName => k_is)
    (case xn_NoName => k_is)
    (case xb_NoName => k_is)
    (case xs_NoName_NoName => k_is)
    (case ga_NoOrder => k_is)
    (case xd_NoOrder => k_is)
    (case xt_NoOrder => k_is)
    (case xn_NoOrder => k_is)
    (case xb_NoOrder => k_is)
    (case xs_NoOrder_NoOrder => k_is)
    (case ga_NoPaper => k_is)
    (case xd_NoPaper => k_is)
    (case xt_NoPaper => k_is)
    (case xn_NoPaper => k_is)
    (case xb_NoPaper => k_is)
    (case xs_NoPaper_NoPaper => k_is)
    (case ga_NoText => k_is)
    (case xd_NoText => k_is)
    (case xt_NoText => k_is)
    (case xn_NoText => k_is)
    (case xb_NoText => k_is)
    (case xs_NoText_NoText => k_is)
    (case ga_NoTie => k_is)
    (case xd_NoTie => k_is)
    (case xt_NoTie => k_is)
    (case xn_NoTie => k_is)
    (case xb_NoTie => k_is)
    (case xs_NoTie_NoTie => k_is)
    (case ga_NoTree => k_is)
    (case xd_NoTree => k_is)
    (case xt_NoTree => k_is)
    (case xn_NoTree => k_is)
    (case xb_NoTree => k_is)
    (case xs_NoTree_NoTree => k_is)
    (case xg_NoPlace => k_is)
    (case xk_NoPlace => k_is)
    (case xc_NoPlace => k_is)
    (case xm_NoPlace => k_is)
    (case xv_NoPlace => k_is)
    (case xs_NoPlace_SeatError => k_is)
    (case xs_NoPlace_NoRule => k_is)
    (case xs_NoPlace_NoForm => k_is)
    (case xs_NoPlace_NoLength => k_is)
    (case xs_NoPlace_NoName => k_is)
    (case xs_NoPlace_NoOrder => k_is)
    (case xs_NoPlace_NoPaper => k_is)
    (case xs_NoPlace_NoText => k_is)
    (case xs_NoPlace_NoTie => k_is)
    (case xs_NoPlace_NoTree => k_is)
    (case xg_NoRule => k_is)
    (case xk_NoRule => k_is)
    (case xc_NoRule => k_is)
    (case xm_NoRule => k_is)
    (case xv_NoRule => k_is)
    (case xs_NoRule_SeatError => k_is)
    (case xs_NoRule_NoPlace => k_is)
    (case xs_NoRule_NoForm => k_is)
    (case xs_NoRule_NoLength => k_is)
    (case xs_NoRule_NoName => k_is)
    (case xs_NoRule_NoOrder => k_is)
    (case xs_NoRule_NoPaper => k_is)
    (case xs_NoRule_NoText => k_is)
    (case xs_NoRule_NoTie => k_is)
    (case xs_NoRule_NoTree => k_is)
    (case xh1 => k_is)
    (case xh2 => k_is)
    (case zc_MOST => k_is)
    (case z_ValueError => k_is)
    (case z_dict => k_is)
    (case z_enumerate => k_is)
    (case z_isinstance => k_is)
    (case z_len => k_is)
    (case z_list => k_is)
    (case z_max => k_is)
    (case z_min => k_is)
    (case z_range => k_is)
    (case z_sorted => k_is)
#print axioms PySem.Challenge.cw_everyseat_k11_no_rule_holds
