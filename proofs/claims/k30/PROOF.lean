import PyProof.Rows.All
import Wide.All
import OpenK.AllK
import Wide.FinOn
import HandS.ForMost
import HandS.ForExc
import HandS.Wide
import HandS.Flow
import HandS.Evl
import HandS.Conv
import HandS.IsInst
import KE.SortData
import KE.DatumMoreOrd
import KE.DatumIndex
import HandS.Walk
import HandS.TupSets
import HandS.TryOnly
import HandS.Codes
import HandS.Dict
import HandS.TupLe
import HandS.List
import KE.KDictPairs
import HandS.Exc
import HandS.ExcIs
import HandS.ExcValue
import PyProof.Rows.CountFlat
import HandS.Style
import HandS.SetKeys
import PySem.Challenge.RW_everyseat_k30_best_sets
set_option Elab.async false
set_option linter.all false
set_option maxRecDepth 100000
set_option maxHeartbeats 4000000
/-! My own layer over HandS: mirrors in an error monad, represented data, owned cells. -/
namespace PG
open PySem L2

/-! ### the mirrors' monad -/
inductive Er where
  | bad
  | exc (n : String)
  deriving DecidableEq
abbrev M := Except Er
def wp {a : Type} (m : M a) (Q : a → Prop) (E : String → Prop) : Prop :=
  match m with
  | .ok x => Q x
  | .error .bad => False
  | .error (.exc n) => E n
section
variable {a b : Type} {Q : a → Prop} {R : b → Prop} {E E' : String → Prop}
theorem wp_ok {x : a} : wp (Except.ok x : M a) Q E = Q x := rfl
theorem wp_pure {x : a} : wp (pure x : M a) Q E = Q x := rfl
theorem wp_bind {m : M b} {k : b → M a} : wp (m >>= k) Q E ↔ wp m (fun x => wp (k x) Q E) E := by
  cases m with
  | ok x => exact Iff.rfl
  | error e => cases e <;> exact Iff.rfl
theorem wp_call {m : M b} {k : b → M a} {E1 : String → Prop} (h : wp (m >>= k) Q E) (hr : ∀ r, m = .ok r → wp (k r) Q E → R r) (he : ∀ n, E n → E1 n) : wp m R E1 := by
  cases m with
  | ok x => exact hr x rfl h
  | error e =>
    cases e with
    | bad => exact h
    | exc n => exact he n h
/-- the last call of a def -/
theorem wp_tail {m : M a} {E1 : String → Prop} {R : a → Prop} (h : wp m Q E) (hr : ∀ r, m = .ok r → Q r → R r) (he : ∀ n, E n → E1 n) : wp m R E1 := by
  cases m with
  | ok x => exact hr x rfl h
  | error e =>
    cases e with
    | bad => exact h
    | exc n => exact he n h
def bad : M a := .error .bad
def raise (n : String) : M a := .error (.exc n)
theorem wp_bad {P : Prop} (h : wp (bad : M a) Q E) : P := h.elim
/-- a guard -/
@[irreducible] def chk (c : Prop) [Decidable c] : M Unit := if c then .ok () else bad
theorem wp_chk {c : Prop} [Decidable c] {k : Unit → M a} (h : wp (chk c >>= k) Q E) : c ∧ wp (k ()) Q E := by
  unfold chk at h
  by_cases hc : c
  · rw [if_pos hc] at h
    exact ⟨hc, h⟩
  · rw [if_neg hc] at h
    exact h.elim
/-- something that is there -/
def opt (o : Option b) : M b := match o with
  | some x => .ok x
  | none => bad
theorem wp_opt {o : Option b} {k : b → M a} (h : wp (opt o >>= k) Q E) : ∃ x, o = some x ∧ wp (k x) Q E := by
  cases o with
  | none => exact h.elim
  | some x => exact ⟨x, rfl, h⟩
/-- no exception leaves -/
def nox (m : M a) : M a := match m with
  | .ok x => .ok x
  | .error _ => bad
theorem wp_nox {m : M b} {k : b → M a} (h : wp (nox m >>= k) Q E) : ∃ x, m = .ok x ∧ wp (k x) Q E := by
  cases m with
  | ok x => exact ⟨x, rfl, h⟩
  | error e => exact h.elim
theorem wp_of_ok {m : M b} {x : b} (e : m = .ok x) (h : R x) : wp m R E := by
  rw [e]
  exact h
theorem wp_ite {c : Prop} [Decidable c] {x y : M a} (h : wp (if c then x else y) Q E) : (c → wp x Q E) ∧ (¬ c → wp y Q E) := by
  by_cases hc : c
  · rw [if_pos hc] at h
    exact ⟨fun _ => h, fun n => (n hc).elim⟩
  · rw [if_neg hc] at h
    exact ⟨fun p => (hc p).elim, fun _ => h⟩
end

/-! ### loops -/
/-- a turn's end: on to the next, or the def's return -/
inductive Fl (s r : Type) where
  | nx (x : s)
  | rt (x : r)
section
variable {i s r a : Type}
def loopM (b : i → s → M (Fl s r)) : List i → s → M (Fl s r)
  | [], x => .ok (.nx x)
  | y :: ys, x => b y x >>= fun
    | .nx x' => loopM b ys x'
    | .rt z => .ok (.rt z)
/-- a loop without return -/
def loopN (b : i → s → M s) : List i → s → M s
  | [], x => .ok x
  | y :: ys, x => b y x >>= fun x' => loopN b ys x'
def whileM (c : s → M Bool) (b : s → M (Fl s r)) : Nat → s → M (Fl s r)
  | 0, _ => bad
  | n + 1, x => c x >>= fun t => if t = true then b x >>= fun
      | .nx x' => whileM c b n x'
      | .rt z => .ok (.rt z)
    else .ok (.nx x)
def whileN (c : s → M Bool) (b : s → M s) : Nat → s → M s
  | 0, _ => bad
  | n + 1, x => c x >>= fun t => if t = true then b x >>= fun x' => whileN c b n x' else .ok x
/-- a comprehension: f gives an element, or none where the test fails -/
def compN (b : i → s → M (Option a × s)) : List i → s → M (List a × s)
  | [], x => .ok ([], x)
  | y :: ys, x => b y x >>= fun p => compN b ys p.2 >>= fun q => .ok (match p.1 with
    | some z => z :: q.1
    | none => q.1, q.2)
/-- .. that changes nothing -/
def compM (b : i → M (Option a)) : List i → M (List a)
  | [] => .ok []
  | y :: ys => b y >>= fun p => compM b ys >>= fun q => .ok (match p with
    | some z => z :: q
    | none => q)
end

/-! ### what a value stands for -/
open PySem.W (T3 T4 Datum DatumOrd)
/-- the frag whose own tuples (the module's constants) may stand in data; told by an instance alone -/
class KF (K : outParam PySem.W.Frag) : Type
def KTup (K : PySem.W.Frag) (a : Addr) (xs : List V) : Prop :=
  ∃ (o : Obj) (its : Array Value) (n : Nat), K.lookup a = some o ∧ o.cls = .type "tuple" ∧ o.data = .seq its n ∧ its.size ≤ sizeLine ∧ Vals xs its.toList
section
variable {K0 : PySem.W.Frag} [KF K0]
/-- a tuple: the heap's, or one of the module's, a text first -/
def TupAt {K0 : PySem.W.Frag} [KF K0] (H : Hp) (a : Addr) (xs : List V) : Prop := H a = some (.tup xs) ∨ ((∃ w ws, xs = V.str w :: ws) ∧ KTup K0 a xs)
theorem TupAt.mono {H H' : Hp} {a : Addr} {xs : List V} (h : TupAt H a xs) (s : Same H H') : TupAt H' a xs := by
  rcases h with h | h
  · exact .inl (s _ _ h)
  · exact .inr h
theorem TupAt.sq {H : Hp} {a : Addr} {xs : List V} (h : TupAt H a xs) : SqT K0 H a xs := by
  rcases h with h | ⟨_, h⟩
  · exact SqT.of h
  · exact .inr h
mutual
inductive Rep (H : Hp) : V → PyData → Prop
  | non : Rep H .non .none
  | bl (b : Bool) : Rep H (.bl b) (.bool b)
  | int (i : Int) : Rep H (.int i) (.int i)
  | str (x : Str) : Rep H (.str x) (.str x)
  | lst {a : Addr} {xs : List V} {ds : List PyData} : H a = some (.lst xs) → RepA H xs ds → Rep H (.ref a) (.list ds)
  | tup {a : Addr} {xs : List V} {ds : List PyData} : TupAt H a xs → RepA H xs ds → Rep H (.ref a) (.tuple ds)
inductive RepA (H : Hp) : List V → List PyData → Prop
  | nil : RepA H [] []
  | cons {v : V} {vs : List V} {d : PyData} {ds : List PyData} : Rep H v d → RepA H vs ds → RepA H (v :: vs) (d :: ds)
end
mutual
theorem Rep.mono {H H' : Hp} (s : Same H H') : ∀ (d : PyData) (v : V), Rep H v d → Rep H' v d
  | .none, _, h => by cases h; exact .non
  | .bool _, _, h => by cases h; exact .bl _
  | .int _, _, h => by cases h; exact .int _
  | .str _, _, h => by cases h; exact .str _
  | .list ds, _, h => by
    cases h with
    | lst ha hs => exact .lst (s _ _ ha) (RepA.mono s ds _ hs)
  | .tuple ds, _, h => by
    cases h with
    | tup ha hs => exact .tup (ha.mono s) (RepA.mono s ds _ hs)
  | .dict _, _, h => by cases h
theorem RepA.mono {H H' : Hp} (s : Same H H') : ∀ (ds : List PyData) (vs : List V), RepA H vs ds → RepA H' vs ds
  | [], _, h => by cases h; exact .nil
  | d :: ds, _, h => by
    cases h with
    | cons h1 h2 => exact .cons (Rep.mono s d _ h1) (RepA.mono s ds _ h2)
end
mutual
theorem Rep.dp {H : Hp} : ∀ (d : PyData) (v : V), Rep H v d → Dp K0 H v d
  | .none, _, h => by cases h; exact .non
  | .bool _, _, h => by cases h; exact .bl _
  | .int _, _, h => by cases h; exact .int _
  | .str _, _, h => by cases h; exact .str _
  | .list ds, _, h => by
    cases h with
    | lst ha hs => exact .lst (SqL.of ha) (RepA.dp ds _ hs)
  | .tuple ds, _, h => by
    cases h with
    | tup ha hs => exact .tup ha.sq (RepA.dp ds _ hs)
  | .dict _, _, h => by cases h
theorem RepA.dp {H : Hp} : ∀ (ds : List PyData) (vs : List V), RepA H vs ds → DpAll K0 H vs ds
  | [], _, h => by cases h; exact .nil
  | d :: ds, _, h => by
    cases h with
    | cons h1 h2 => exact .cons (Rep.dp d _ h1) (RepA.dp ds _ h2)
end

end
/-- a Lean type whose values are Python's data -/
class Py (a : Type) where
  toD : a → PyData
instance : Py Int := ⟨.int⟩
instance : Py Bool := ⟨.bool⟩
instance : Py Str := ⟨.str⟩
instance : Py Unit := ⟨fun _ => .none⟩
instance {a : Type} [Py a] : Py (List a) := ⟨fun xs => .list (xs.map Py.toD)⟩
instance {a b : Type} [Py a] [Py b] : Py (a × b) := ⟨fun p => .tuple [Py.toD p.1, Py.toD p.2]⟩
instance {a b c : Type} [Py a] [Py b] [Py c] : Py (T3 a b c) := ⟨fun p => .tuple [Py.toD p.a, Py.toD p.b, Py.toD p.c]⟩
instance {a b c d : Type} [Py a] [Py b] [Py c] [Py d] : Py (T4 a b c d) := ⟨fun p => .tuple [Py.toD p.a, Py.toD p.b, Py.toD p.c, Py.toD p.d]⟩
instance {a : Type} [Py a] : Py (Option a) := ⟨fun o => match o with
  | none => .none
  | some x => Py.toD x⟩
class IsD (a : Type) [Py a] [DecidableEq a] [Datum a] : Prop where
  eq : ∀ x : a, Py.toD x = Datum.toD x
instance : IsD Int := ⟨fun _ => rfl⟩
instance : IsD Bool := ⟨fun _ => rfl⟩
instance : IsD Str := ⟨fun _ => rfl⟩
instance : IsD Unit := ⟨fun _ => rfl⟩
section
variable {a b c d : Type} [Py a] [DecidableEq a] [Datum a] [IsD a] [Py b] [DecidableEq b] [Datum b] [IsD b] [Py c] [DecidableEq c] [Datum c] [IsD c] [Py d] [DecidableEq d] [Datum d] [IsD d]
theorem map_toD (xs : List a) : xs.map (Py.toD : a → PyData) = xs.map Datum.toD := List.map_congr_left fun x _ => IsD.eq x
instance : IsD (List a) := ⟨fun xs => congrArg PyData.list (map_toD xs)⟩
instance : IsD (a × b) := ⟨fun p => by show PyData.tuple [_, _] = PyData.tuple [_, _]; rw [IsD.eq, IsD.eq]⟩
instance : IsD (T3 a b c) := ⟨fun p => by show PyData.tuple [_, _, _] = PyData.tuple [_, _, _]; rw [IsD.eq, IsD.eq, IsD.eq]⟩
instance : IsD (T4 a b c d) := ⟨fun p => by show PyData.tuple [_, _, _, _] = PyData.tuple [_, _, _, _]; rw [IsD.eq, IsD.eq, IsD.eq, IsD.eq]⟩
instance [PySem.W.SomeDatum a] : IsD (Option a) := ⟨fun o => by
  cases o with
  | none => rfl
  | some x => exact IsD.eq x⟩
end

/-- no text -/
class NoS (a : Type) [Py a] : Prop where
  ns : ∀ (x : a) (s : Str), Py.toD x ≠ .str s
instance : NoS Int := ⟨fun _ _ h => nomatch h⟩
instance : NoS Bool := ⟨fun _ _ h => nomatch h⟩
instance : NoS Unit := ⟨fun _ _ h => nomatch h⟩
section
variable {a b c d : Type} [Py a] [Py b] [Py c] [Py d]
instance : NoS (List a) := ⟨fun _ _ h => nomatch h⟩
instance : NoS (a × b) := ⟨fun _ _ h => nomatch h⟩
instance : NoS (T3 a b c) := ⟨fun _ _ h => nomatch h⟩
instance : NoS (T4 a b c d) := ⟨fun _ _ h => nomatch h⟩
instance [NoS a] : NoS (Option a) := ⟨fun o s h => by
  cases o with
  | none => exact nomatch h
  | some x => exact NoS.ns x s h⟩
end
variable {K0 : PySem.W.Frag} [KF K0]
theorem TupAt.plain {a : Type} [Py a] [NoS a] {H : Hp} {p : Addr} {v : V} {vs : List V} {x : a} (h : TupAt H p (v :: vs)) (r : Rep H v (Py.toD x)) : H p = some (.tup (v :: vs)) := by
  rcases h with h | ⟨⟨w, ws, e⟩, _⟩
  · exact h
  · injection e with e _
    subst e
    obtain ⟨d, hd⟩ : ∃ d, d = Py.toD x := ⟨_, rfl⟩
    rw [← hd] at r
    cases r with
    | str => exact (NoS.ns x w hd.symm).elim
/-- v stands for x -/
def R {a : Type} [Py a] (H : Hp) (v : V) (x : a) : Prop := Rep H v (Py.toD x)
/-- item by item -/
def RL {a : Type} [Py a] (H : Hp) (vs : List V) (xs : List a) : Prop := RepA H vs (xs.map Py.toD)
section
variable {H H' : Hp} {v : V} {vs : List V} {p q : Addr}
theorem R.mono {a : Type} [Py a] {x : a} (h : R H v x) (s : Same H H') : R H' v x := Rep.mono s _ _ h
theorem RL.mono {a : Type} [Py a] {xs : List a} (h : RL H vs xs) (s : Same H H') : RL H' vs xs := RepA.mono s _ _ h
theorem R.int {i : Int} : R H (.int i) i := Rep.int i
theorem R.bl {b : Bool} : R H (.bl b) b := Rep.bl b
theorem R.str {x : Str} : R H (.str x) x := Rep.str x
theorem R.unit {u : Unit} : R H .non u := Rep.non
theorem R.non {a : Type} [Py a] : R H .non (none : Option a) := Rep.non
theorem R.jst {a : Type} [Py a] {x : a} (h : R H v x) : R H v (some x) := h
theorem R.int_ {i : Int} (h : R H v i) : v = .int i := by cases h; rfl
theorem R.bl_ {b : Bool} (h : R H v b) : v = .bl b := by cases h; rfl
theorem R.str_ {x : Str} (h : R H v x) : v = .str x := by cases h; rfl
theorem R.unit_ {u : Unit} (h : R H v u) : v = .non := by cases h; rfl
theorem R.non_ {a : Type} [Py a] (h : R H v (none : Option a)) : v = .non := by cases h; rfl
theorem R.jst_ {a : Type} [Py a] {x : a} (h : R H v (some x)) : R H v x := h
variable {a b c d : Type} [Py a] [Py b] [Py c] [Py d]
theorem R.lst {xs : List a} (ha : H p = some (.lst vs)) (h : RL H vs xs) : R H (.ref p) xs := Rep.lst ha h
theorem R.lst_ {xs : List a} (h : R H v xs) : ∃ p vs, v = .ref p ∧ H p = some (.lst vs) ∧ RL H vs xs := by
  have h' : Rep H v (.list (xs.map Py.toD)) := h
  cases h' with
  | lst ha hs => exact ⟨_, _, rfl, ha, hs⟩
theorem R.t2 {x : a × b} {v1 v2 : V} (ha : H p = some (.tup [v1, v2])) (h1 : R H v1 x.1) (h2 : R H v2 x.2) : R H (.ref p) x := Rep.tup (.inl ha) (.cons h1 (.cons h2 .nil))
theorem R.t2T_ {x : a × b} (h : R H v x) : ∃ p v1 v2, v = .ref p ∧ TupAt H p [v1, v2] ∧ R H v1 x.1 ∧ R H v2 x.2 := by
  have h' : Rep H v (.tuple [_, _]) := h
  cases h' with
  | tup ha hs =>
    cases hs with
    | cons h1 hs =>
      cases hs with
      | cons h2 hs =>
        cases hs
        exact ⟨_, _, _, rfl, ha, h1, h2⟩
theorem R.t2T {x : a × b} {v1 v2 : V} (ha : TupAt H p [v1, v2]) (h1 : R H v1 x.1) (h2 : R H v2 x.2) : R H (.ref p) x := Rep.tup ha (.cons h1 (.cons h2 .nil))
theorem R.t3T {x : T3 a b c} {v1 v2 v3 : V} (ha : TupAt H p [v1, v2, v3]) (h1 : R H v1 x.a) (h2 : R H v2 x.b) (h3 : R H v3 x.c) : R H (.ref p) x := Rep.tup ha (.cons h1 (.cons h2 (.cons h3 .nil)))
theorem TupAt.mv {F F' : Hp} {xs : List V} (h : TupAt F p xs) (t : ∀ b xs, F b = some (.tup xs) → F' b = some (.tup xs)) : TupAt F' p xs := by
  rcases h with h | h
  · exact .inl (t _ _ h)
  · exact .inr h
theorem R.t2_ [NoS a] {x : a × b} (h : R H v x) : ∃ p v1 v2, v = .ref p ∧ H p = some (.tup [v1, v2]) ∧ R H v1 x.1 ∧ R H v2 x.2 := by
  have h' : Rep H v (.tuple [_, _]) := h
  cases h' with
  | tup ha hs =>
    cases hs with
    | cons h1 hs =>
      cases hs with
      | cons h2 hs =>
        cases hs
        exact ⟨_, _, _, rfl, ha.plain h1, h1, h2⟩
theorem R.t3 {x : T3 a b c} {v1 v2 v3 : V} (ha : H p = some (.tup [v1, v2, v3])) (h1 : R H v1 x.a) (h2 : R H v2 x.b) (h3 : R H v3 x.c) : R H (.ref p) x := Rep.tup (.inl ha) (.cons h1 (.cons h2 (.cons h3 .nil)))
theorem R.t3T_ {x : T3 a b c} (h : R H v x) : ∃ p v1 v2 v3, v = .ref p ∧ TupAt H p [v1, v2, v3] ∧ R H v1 x.a ∧ R H v2 x.b ∧ R H v3 x.c := by
  have h' : Rep H v (.tuple [_, _, _]) := h
  cases h' with
  | tup ha hs =>
    cases hs with
    | cons h1 hs =>
      cases hs with
      | cons h2 hs =>
        cases hs with
        | cons h3 hs =>
          cases hs
          exact ⟨_, _, _, _, rfl, ha, h1, h2, h3⟩
theorem R.t3_ [NoS a] {x : T3 a b c} (h : R H v x) : ∃ p v1 v2 v3, v = .ref p ∧ H p = some (.tup [v1, v2, v3]) ∧ R H v1 x.a ∧ R H v2 x.b ∧ R H v3 x.c := by
  have h' : Rep H v (.tuple [_, _, _]) := h
  cases h' with
  | tup ha hs =>
    cases hs with
    | cons h1 hs =>
      cases hs with
      | cons h2 hs =>
        cases hs with
        | cons h3 hs =>
          cases hs
          exact ⟨_, _, _, _, rfl, ha.plain h1, h1, h2, h3⟩
theorem R.t4 {x : T4 a b c d} {v1 v2 v3 v4 : V} (ha : H p = some (.tup [v1, v2, v3, v4])) (h1 : R H v1 x.a) (h2 : R H v2 x.b) (h3 : R H v3 x.c) (h4 : R H v4 x.d) : R H (.ref p) x :=
  Rep.tup (.inl ha) (.cons h1 (.cons h2 (.cons h3 (.cons h4 .nil))))
theorem R.t4_ [NoS a] {x : T4 a b c d} (h : R H v x) : ∃ p v1 v2 v3 v4, v = .ref p ∧ H p = some (.tup [v1, v2, v3, v4]) ∧ R H v1 x.a ∧ R H v2 x.b ∧ R H v3 x.c ∧ R H v4 x.d := by
  have h' : Rep H v (.tuple [_, _, _, _]) := h
  cases h' with
  | tup ha hs =>
    cases hs with
    | cons h1 hs =>
      cases hs with
      | cons h2 hs =>
        cases hs with
        | cons h3 hs =>
          cases hs with
          | cons h4 hs =>
            cases hs
            exact ⟨_, _, _, _, _, rfl, ha.plain h1, h1, h2, h3, h4⟩
theorem RL.nil : RL H [] ([] : List a) := RepA.nil
theorem RL.cons {x : a} {xs : List a} (h : R H v x) (hs : RL H vs xs) : RL H (v :: vs) (x :: xs) := RepA.cons h hs
theorem RL.cons_ {x : a} {xs : List a} (h : RL H vs (x :: xs)) : ∃ w ws, vs = w :: ws ∧ R H w x ∧ RL H ws xs := by
  have h' : RepA H vs (Py.toD x :: xs.map Py.toD) := h
  cases h' with
  | cons h1 h2 => exact ⟨_, _, rfl, h1, h2⟩
theorem RL.nil_ (h : RL H vs ([] : List a)) : vs = [] := by
  have h' : RepA H vs [] := h
  cases h'
  rfl
theorem RL.len : ∀ {vs : List V} {xs : List a}, RL H vs xs → vs.length = xs.length
  | _, [], h => by rw [RL.nil_ h]; rfl
  | _, x :: xs, h => by
    obtain ⟨w, ws, rfl, _, h2⟩ := RL.cons_ h
    rw [List.length_cons, List.length_cons, RL.len h2]
theorem RL.app : ∀ {vs ws : List V} {xs ys : List a}, RL H vs xs → RL H ws ys → RL H (vs ++ ws) (xs ++ ys)
  | _, _, [], _, h, k => by rw [RL.nil_ h]; exact k
  | _, _, x :: xs, _, h, k => by
    obtain ⟨w, ws', rfl, h1, h2⟩ := RL.cons_ h
    exact RL.cons h1 (RL.app h2 k)
theorem RL.snoc {x : a} {xs : List a} (h : RL H vs xs) (k : R H v x) : RL H (vs ++ [v]) (xs ++ [x]) := RL.app h (RL.cons k RL.nil)
theorem RL.get : ∀ {vs : List V} {xs : List a}, RL H vs xs → ∀ {i : Nat} {x : a}, xs[i]? = some x → ∃ w, vs[i]? = some w ∧ R H w x
  | _, [], _, i, x, e => by simp at e
  | _, y :: ys, h, i, x, e => by
    obtain ⟨w, ws, rfl, h1, h2⟩ := RL.cons_ h
    cases i with
    | zero =>
      cases (Option.some.inj e : y = x)
      exact ⟨w, rfl, h1⟩
    | succ i => exact RL.get h2 (i := i) (by simpa using e)
theorem RL.got : ∀ {vs : List V} {xs : List a}, RL H vs xs → ∀ {i : Nat} {w : V}, vs[i]? = some w → ∃ x, xs[i]? = some x ∧ R H w x
  | _, [], h, i, w, e => by rw [RL.nil_ h] at e; simp at e
  | _, y :: ys, h, i, w, e => by
    obtain ⟨w', ws, rfl, h1, h2⟩ := RL.cons_ h
    cases i with
    | zero =>
      cases (Option.some.inj e : w' = w)
      exact ⟨y, rfl, h1⟩
    | succ i => exact RL.got h2 (i := i) (by simpa using e)
theorem RL.atI {xs : List a} (h : RL H vs xs) {i : Int} {x : a} (e : L2.atI xs i = some x) : ∃ w, L2.atI vs i = some w ∧ R H w x := by
  unfold L2.atI at e ⊢
  rw [h.len]
  cases q : ixN xs.length i with
  | none => rw [q] at e; cases e
  | some j =>
    rw [q] at e
    exact h.get e
theorem RL.take : ∀ {vs : List V} {xs : List a} (n : Nat), RL H vs xs → RL H (vs.take n) (xs.take n)
  | _, _, 0, _ => RL.nil
  | _, [], n + 1, h => by rw [RL.nil_ h]; exact RL.nil
  | _, x :: xs, n + 1, h => by
    obtain ⟨w, ws, rfl, h1, h2⟩ := RL.cons_ h
    exact RL.cons h1 (RL.take n h2)
theorem RL.drop : ∀ {vs : List V} {xs : List a} (n : Nat), RL H vs xs → RL H (vs.drop n) (xs.drop n)
  | _, _, 0, h => h
  | _, [], n + 1, h => by rw [RL.nil_ h]; exact RL.nil
  | _, x :: xs, n + 1, h => by
    obtain ⟨w, ws, rfl, h1, h2⟩ := RL.cons_ h
    exact RL.drop n h2
theorem RL.set : ∀ {vs : List V} {xs : List a} (n : Nat) {w : V} {y : a}, RL H vs xs → R H w y → RL H (vs.set n w) (xs.set n y)
  | _, [], n, _, _, h, _ => by rw [RL.nil_ h]; exact RL.nil
  | _, x :: xs, 0, _, _, h, k => by
    obtain ⟨w, ws, rfl, h1, h2⟩ := RL.cons_ h
    exact RL.cons k h2
  | _, x :: xs, n + 1, _, _, h, k => by
    obtain ⟨w, ws, rfl, h1, h2⟩ := RL.cons_ h
    exact RL.cons h1 (RL.set n h2 k)
theorem RL.erase : ∀ {vs : List V} {xs : List a} (n : Nat), RL H vs xs → RL H (vs.eraseIdx n) (xs.eraseIdx n)
  | _, [], n, h => by rw [RL.nil_ h]; exact RL.nil
  | _, x :: xs, 0, h => by
    obtain ⟨w, ws, rfl, h1, h2⟩ := RL.cons_ h
    exact h2
  | _, x :: xs, n + 1, h => by
    obtain ⟨w, ws, rfl, h1, h2⟩ := RL.cons_ h
    exact RL.cons h1 (RL.erase n h2)
theorem RL.dropLast : ∀ {vs : List V} {xs : List a}, RL H vs xs → RL H vs.dropLast xs.dropLast
  | _, [], h => by rw [RL.nil_ h]; exact RL.nil
  | _, x :: xs, h => by
    obtain ⟨w, ws, rfl, h1, h2⟩ := RL.cons_ h
    cases xs with
    | nil => rw [RL.nil_ h2]; exact RL.nil
    | cons y ys =>
      obtain ⟨w2, ws2, rfl, _, _⟩ := RL.cons_ h2
      exact RL.cons h1 (RL.dropLast h2)
theorem RL.rev : ∀ {vs : List V} {xs : List a}, RL H vs xs → RL H vs.reverse xs.reverse
  | _, [], h => by rw [RL.nil_ h]; exact RL.nil
  | _, x :: xs, h => by
    obtain ⟨w, ws, rfl, h1, h2⟩ := RL.cons_ h
    rw [List.reverse_cons, List.reverse_cons]
    exact RL.snoc (RL.rev h2) h1
theorem RL.ints : ∀ {vs : List V} {xs : List Int}, RL H vs xs → vs = xs.map V.int
  | _, [], h => RL.nil_ h
  | _, x :: xs, h => by
    obtain ⟨w, ws, rfl, h1, h2⟩ := RL.cons_ h
    rw [R.int_ h1, RL.ints h2]
    rfl
theorem RL.of_ints : ∀ {xs : List Int}, RL H (xs.map V.int) xs
  | [] => RL.nil
  | x :: xs => RL.cons R.int RL.of_ints
theorem RL.bls : ∀ {vs : List V} {xs : List Bool}, RL H vs xs → vs = xs.map V.bl
  | _, [], h => RL.nil_ h
  | _, x :: xs, h => by
    obtain ⟨w, ws, rfl, h1, h2⟩ := RL.cons_ h
    rw [R.bl_ h1, RL.bls h2]
    rfl
theorem RL.strs : ∀ {vs : List V} {xs : List Str}, RL H vs xs → vs = xs.map V.str
  | _, [], h => RL.nil_ h
  | _, x :: xs, h => by
    obtain ⟨w, ws, rfl, h1, h2⟩ := RL.cons_ h
    rw [R.str_ h1, RL.strs h2]
    rfl
theorem RL.of_strs : ∀ {xs : List Str}, RL H (xs.map V.str) xs
  | [] => RL.nil
  | x :: xs => RL.cons R.str RL.of_strs
theorem RL.cut {xs : List a} (h : RL H vs xs) (lo hi : Option Int) : RL H (cutV vs lo hi) ((xs.drop (HT.sIx xs.length 0 lo)).take (HT.sIx xs.length xs.length hi - HT.sIx xs.length 0 lo)) := by
  unfold cutV
  rw [h.len]
  exact (h.drop _).take _
end

/-! ### owned cells: F is what is read alone, cs are the cells that the code may change -/
/-- what is known of the heap behind a def, by the heap at its entry; the cells at as may have changed -/
structure Gr (as : List Addr) (F H F' H' : Hp) : Prop where
  f : Same F F'
  s : Same F' H'
  k : ∀ b o, b ∉ as → H b = some o → H' b = some o
  t : ∀ b, H b ≠ none → H' b ≠ none
  n : ∀ b, H b ≠ none → F' b = F b ∨ ∃ xs, H b = some (.tup xs)
  u : ∀ b xs, H' b = some (.tup xs) → H b = none ∨ H b = some (.tup xs)
/-- what may be a cell -/
def noTup : HO → Bool
  | .tup _ => false
  | _ => true
structure Kp (as : List Addr) (H H' : Hp) : Prop where
  k : ∀ b o, b ∉ as → H b = some o → H' b = some o
  t : ∀ b, H b ≠ none → H' b ≠ none
/-- the entry of a def -/
structure Ent where
  as : List Addr
  F : Hp
  H : Hp
structure Ow (Z : Ent) (F : Hp) (cs : List (Addr × HO)) (H : Hp) : Prop where
  g : Gr Z.as Z.F Z.H F H
  cf : ∀ c ∈ cs, F c.1 = none
  ch : ∀ c ∈ cs, H c.1 = some c.2
  nd : (cs.map (·.1)).Nodup
  ca : ∀ c ∈ cs, c.1 ∈ Z.as ∨ Z.H c.1 = none
  nt : ∀ c ∈ cs, noTup c.2 = true
/-- what a def asks of its cells -/
structure Pre (F : Hp) (cs : List (Addr × HO)) (H : Hp) : Prop where
  s : Same F H
  cf : ∀ c ∈ cs, F c.1 = none
  ch : ∀ c ∈ cs, H c.1 = some c.2
  nd : (cs.map (·.1)).Nodup
  nt : ∀ c ∈ cs, noTup c.2 = true
theorem Same.new {H : Hp} {p : Addr} {o : HO} (h : H p = none) : Same H (upd H p o) := fun b u e => by
  rw [upd_ne (ne_of_none e h)]
  exact e
theorem Same.upd2 {F H : Hp} {p : Addr} {o : HO} (s : Same F H) : Same (upd F p o) (upd H p o) := fun b u e => by
  by_cases hb : b = p
  · subst hb
    rw [upd_same] at e ⊢
    exact e
  · rw [upd_ne hb] at e ⊢
    exact s b u e
theorem Same.no {F H : Hp} {p : Addr} (s : Same F H) (h : H p = none) : F p = none := Same.free s h
section
variable {Z : Ent} {F F' H H' : Hp} {cs : List (Addr × HO)} {p a : Addr} {o o' : HO}
theorem Pre.start (P : Pre F cs H) : Ow ⟨cs.map (·.1), F, H⟩ F cs H where
  g := ⟨Same.refl _, P.s, fun _ _ _ e => e, fun _ e => e, fun _ _ => .inl rfl, fun _ _ e => .inr e⟩
  cf := P.cf
  ch := P.ch
  nd := P.nd
  ca := fun c hc => .inl (List.mem_map.mpr ⟨c, hc, rfl⟩)
  nt := P.nt
theorem Ow.s (O : Ow Z F cs H) : Same F H := O.g.s
theorem Ow.pre (O : Ow Z F cs H) : Pre F cs H := ⟨O.g.s, O.cf, O.ch, O.nd, O.nt⟩
theorem Ow.pre0 (O : Ow Z F cs H) : Pre F [] H := ⟨O.g.s, (fun _ h => nomatch h), (fun _ h => nomatch h), List.nodup_nil, fun _ h => nomatch h⟩
theorem Ow.pre1 (O : Ow Z F cs H) (i : Nat) (e : cs[i]? = some (a, o)) : Pre F [(a, o)] H := by
  have m := List.mem_of_getElem? e
  refine ⟨O.g.s, fun c hc => ?_, fun c hc => ?_, by simp, fun c hc => ?_⟩
  · rw [List.mem_singleton.mp hc]; exact O.cf _ m
  · rw [List.mem_singleton.mp hc]; exact O.ch _ m
  · rw [List.mem_singleton.mp hc]; exact O.nt _ m
theorem Ow.at (O : Ow Z F cs H) (i : Nat) (e : cs[i]? = some (a, o)) : H a = some o := O.ch _ (List.mem_of_getElem? e)
theorem Ow.no (O : Ow Z F cs H) (h : H p = none) : F p = none := Same.no O.s h
theorem Gr.new (g : Gr Z.as Z.F Z.H F H) (h : H p = none) : Gr Z.as Z.F Z.H F (upd H p o) where
  f := g.f
  s := g.s.trans (Same.new h)
  k := fun b u hb e => Same.new h b u (g.k b u hb e)
  t := fun b e z => by
    by_cases hb : b = p
    · subst hb; exact g.t _ e h
    · rw [upd_ne hb] at z; exact g.t b e z
  n := g.n
  u := fun b xs e => by
    by_cases hb : b = p
    · subst hb
      cases q : Z.H b with
      | none => exact .inl rfl
      | some u => exact absurd h (g.t b (by rw [q]; simp))
    · rw [upd_ne hb] at e; exact g.u b xs e
/-- a new cell -/
theorem Ow.new (O : Ow Z F cs H) (h : H p = none) (hn : noTup o = true := by rfl) : Ow Z F ((p, o) :: cs) (upd H p o) where
  g := O.g.new h
  cf := fun c hc => by
    rcases List.mem_cons.mp hc with rfl | hc
    · exact O.no h
    · exact O.cf c hc
  ch := fun c hc => by
    rcases List.mem_cons.mp hc with rfl | hc
    · exact upd_same
    · rw [upd_ne (ne_of_none (O.ch c hc) h)]; exact O.ch c hc
  nd := by
    rw [List.map_cons, List.nodup_cons]
    refine ⟨fun hm => ?_, O.nd⟩
    obtain ⟨c, hc, e⟩ := List.mem_map.mp hm
    have z := O.ch c hc
    rw [e] at z
    rw [z] at h
    cases h
  ca := fun c hc => by
    rcases List.mem_cons.mp hc with rfl | hc
    · refine .inr ?_
      cases q : Z.H p with
      | none => rfl
      | some u => exact absurd h (O.g.t p (by rw [q]; simp))
    · exact O.ca c hc
  nt := fun c hc => by
    rcases List.mem_cons.mp hc with rfl | hc
    · exact hn
    · exact O.nt c hc
/-- a new thing that is read alone -/
theorem Ow.put (O : Ow Z F cs H) (h : H p = none) : Ow Z (upd F p o) cs (upd H p o) where
  g := {
    f := O.g.f.trans (Same.new (O.no h))
    s := Same.upd2 O.g.s
    k := (O.g.new h).k
    t := (O.g.new h).t
    n := fun b e => by
      have hb : b ≠ p := fun z => by subst z; exact O.g.t _ e h
      rw [upd_ne hb]
      exact O.g.n b e
    u := (O.g.new h).u }
  cf := fun c hc => by rw [upd_ne (ne_of_none (O.ch c hc) h)]; exact O.cf c hc
  ch := fun c hc => by rw [upd_ne (ne_of_none (O.ch c hc) h)]; exact O.ch c hc
  nd := O.nd
  ca := O.ca
  nt := O.nt
theorem map_set_fst {i : Nat} (e : cs[i]? = some (a, o)) : (cs.set i (a, o')).map (·.1) = cs.map (·.1) := by
  rw [List.map_set]
  obtain ⟨h, e'⟩ := List.getElem?_eq_some_iff.mp e
  refine List.ext_getElem? fun j => ?_
  by_cases hj : i = j
  · subst hj
    rw [List.getElem?_set_self (by simpa using h), List.getElem?_map, e]
    rfl
  · rw [List.getElem?_set_ne hj]
theorem nd_other {i : Nat} (nd : (cs.map (·.1)).Nodup) (e : cs[i]? = some (a, o)) {c : Addr × HO} (hc : c ∈ cs.set i (a, o')) : c = (a, o') ∨ (c ∈ cs ∧ c.1 ≠ a) := by
  obtain ⟨j, hj⟩ := List.mem_iff_getElem?.mp hc
  by_cases hij : i = j
  · subst hij
    obtain ⟨h, _⟩ := List.getElem?_eq_some_iff.mp e
    rw [List.getElem?_set_self h] at hj
    exact .inl (Option.some.inj hj).symm
  · rw [List.getElem?_set_ne hij] at hj
    refine .inr ⟨List.mem_of_getElem? hj, fun z => hij ?_⟩
    have h1 : (cs.map (·.1))[i]? = some a := by rw [List.getElem?_map, e]; rfl
    have h2 : (cs.map (·.1))[j]? = some a := by rw [List.getElem?_map, hj, ← z]; rfl
    exact nd_ix nd h1 h2
/-- a cell is changed -/
theorem Ow.set (O : Ow Z F cs H) (i : Nat) (o' : HO) (e : cs[i]? = some (a, o)) (hn : noTup o' = true := by rfl) : Ow Z F (cs.set i (a, o')) (upd H a o') := by
  have m := List.mem_of_getElem? e
  have ha := O.ca _ m
  refine ⟨⟨O.g.f, fun b u q => ?_, fun b u hb q => ?_, fun b q z => ?_, O.g.n, fun b xs q => ?_⟩, fun c hc => ?_, fun c hc => ?_, ?_, fun c hc => ?_, fun c hc => ?_⟩
  · have hb : b ≠ a := fun z => by subst z; rw [O.cf _ m] at q; cases q
    rw [upd_ne hb]
    exact O.g.s b u q
  · have hba : b ≠ a := fun z => by
      subst z
      rcases ha with ha | ha
      · exact hb ha
      · have q' : Z.H b = some u := q
        have ha' : Z.H b = none := ha
        rw [ha'] at q'; cases q'
    rw [upd_ne hba]
    exact O.g.k b u hb q
  · by_cases hb : b = a
    · subst hb; rw [upd_same] at z; cases z
    · rw [upd_ne hb] at z; exact O.g.t b q z
  · by_cases hb : b = a
    · subst hb
      rw [upd_same] at q
      rw [Option.some.inj q] at hn
      cases hn
    · rw [upd_ne hb] at q; exact O.g.u b xs q
  · rcases nd_other O.nd e hc with rfl | ⟨h1, _⟩
    · exact O.cf (a, o) m
    · exact O.cf c h1
  · rcases nd_other O.nd e hc with rfl | ⟨h1, h2⟩
    · exact upd_same
    · rw [upd_ne h2]; exact O.ch c h1
  · rw [map_set_fst e]; exact O.nd
  · rcases nd_other O.nd e hc with rfl | ⟨h1, _⟩
    · exact ha
    · exact O.ca c h1
  · rcases nd_other O.nd e hc with rfl | ⟨h1, _⟩
    · exact hn
    · exact O.nt c h1
theorem mem_erase {i : Nat} {c : Addr × HO} (h : c ∈ cs.eraseIdx i) : c ∈ cs := List.mem_of_mem_eraseIdx h
theorem nd_erase {i : Nat} (h : (cs.map (·.1)).Nodup) : ((cs.eraseIdx i).map (·.1)).Nodup := by
  exact h.sublist ((List.eraseIdx_sublist cs i).map (fun x => x.1))
/-- a cell that nobody changes any more (it was not there at the entry) -/
theorem Ow.frz (O : Ow Z F cs H) (i : Nat) (e : cs[i]? = some (a, o)) (hz : Z.H a = none) : Ow Z (upd F a o) (cs.eraseIdx i) H := by
  have m := List.mem_of_getElem? e
  have h1 : ∀ c ∈ cs.eraseIdx i, c.1 ≠ a := fun c hc z => by
    have nd := O.nd
    obtain ⟨hi, e'⟩ := List.getElem?_eq_some_iff.mp e
    obtain ⟨j, hj⟩ := List.mem_iff_getElem?.mp hc
    rw [List.getElem?_eraseIdx] at hj
    have h1 : (cs.map (·.1))[i]? = some a := by rw [List.getElem?_map, e]; rfl
    by_cases hji : j < i
    · rw [if_pos hji] at hj
      have h2 : (cs.map (·.1))[j]? = some a := by rw [List.getElem?_map, hj, ← z]; rfl
      have := nd_ix nd h1 h2
      omega
    · rw [if_neg hji] at hj
      have h2 : (cs.map (·.1))[j + 1]? = some a := by rw [List.getElem?_map, hj, ← z]; rfl
      have := nd_ix nd h1 h2
      omega
  refine ⟨⟨O.g.f.trans (Same.new (O.cf _ m)), fun b u q => ?_, O.g.k, O.g.t, fun b q => ?_, O.g.u⟩, fun c hc => ?_, fun c hc => O.ch c (mem_erase hc), nd_erase O.nd, fun c hc => O.ca c (mem_erase hc), fun c hc => O.nt c (mem_erase hc)⟩
  · by_cases hb : b = a
    · subst hb; rw [upd_same] at q; rw [← q]; exact O.ch _ m
    · rw [upd_ne hb] at q; exact O.g.s b u q
  · have hb : b ≠ a := fun z => by subst z; exact q hz
    rw [upd_ne hb]
    exact O.g.n b q
  · rw [upd_ne (h1 c hc)]; exact O.cf c (mem_erase hc)
theorem Ow.drop (O : Ow Z F cs H) (i : Nat) : Ow Z F (cs.eraseIdx i) H := ⟨O.g, fun c hc => O.cf c (mem_erase hc), fun c hc => O.ch c (mem_erase hc), nd_erase O.nd, fun c hc => O.ca c (mem_erase hc), fun c hc => O.nt c (mem_erase hc)⟩
theorem Ow.frzS (O : Ow Z F cs H) (i : Nat) (e : cs[i]? = some (a, o)) : Same F (upd F a o) := Same.new (O.cf _ (List.mem_of_getElem? e))
theorem Ow.putS (O : Ow Z F cs H) (h : H p = none) : Same F (upd F p o) := Same.new (O.no h)
theorem Gr.then {as : List Addr} (g0 : Gr Z.as Z.F Z.H F H) (g : Gr as F H F' H') (ha : ∀ b ∈ as, b ∈ Z.as ∨ Z.H b = none) : Gr Z.as Z.F Z.H F' H' where
  f := g0.f.trans g.f
  s := g.s
  k := fun b u hb e => by
    refine g.k b u (fun z => ?_) (g0.k b u hb e)
    rcases ha b z with h | h
    · exact hb h
    · rw [h] at e; cases e
  t := fun b e => g.t b (g0.t b e)
  n := fun b e => by
    rcases g0.n b e with h0 | h0
    · rcases g.n b (g0.t b e) with h1 | ⟨xs, hx⟩
      · exact .inl (h1.trans h0)
      · rcases g0.u b xs hx with z | z
        · exact absurd z e
        · exact .inr ⟨xs, z⟩
    · exact .inr h0
  u := fun b xs e => by
    rcases g.u b xs e with z | z
    · refine .inl ?_
      cases q : Z.H b with
      | none => rfl
      | some u => exact absurd z (g0.t b (by rw [q]; simp))
    · exact g0.u b xs z
theorem Gr.none {as : List Addr} (g : Gr as F H F' H') {c : Addr × HO} (h : H c.1 = some c.2) (hn : noTup c.2 = true) (hf : F c.1 = Option.none) : F' c.1 = Option.none := by
  rcases g.n c.1 (by rw [h]; simp) with z | ⟨xs, z⟩
  · exact z.trans hf
  · rw [h] at z
    rw [Option.some.inj z] at hn
    cases hn
/-- behind a call that changes none of our cells -/
theorem Ow.call0 (O : Ow Z F cs H) (g : Gr [] F H F' H') : Ow Z F' cs H' where
  g := O.g.then g (fun _ h => nomatch h)
  cf := fun c hc => g.none (O.ch c hc) (O.nt c hc) (O.cf c hc)
  ch := fun c hc => g.k _ _ (fun h => nomatch h) (O.ch c hc)
  nd := O.nd
  ca := O.ca
  nt := O.nt
/-- .. one -/
theorem Ow.call1 (O : Ow Z F cs H) (g : Gr [a] F H F' H') (i : Nat) (e : cs[i]? = some (a, o)) (h' : H' a = some o') (hn : noTup o' = true := by rfl) : Ow Z F' (cs.set i (a, o')) H' := by
  have m := List.mem_of_getElem? e
  refine ⟨O.g.then g (fun b hb => by rw [List.mem_singleton.mp hb]; exact O.ca _ m), fun c hc => ?_, fun c hc => ?_, by rw [map_set_fst e]; exact O.nd, fun c hc => ?_, fun c hc => ?_⟩
  · rcases nd_other O.nd e hc with rfl | ⟨h1, _⟩
    · exact g.none (c := (a, o)) (O.ch (a, o) m) (O.nt (a, o) m) (O.cf (a, o) m)
    · exact g.none (O.ch c h1) (O.nt c h1) (O.cf c h1)
  · rcases nd_other O.nd e hc with rfl | ⟨h1, h2⟩
    · exact h'
    · exact g.k _ _ (fun z => h2 (List.mem_singleton.mp z)) (O.ch c h1)
  · rcases nd_other O.nd e hc with rfl | ⟨h1, _⟩
    · exact O.ca (a, o) m
    · exact O.ca c h1
  · rcases nd_other O.nd e hc with rfl | ⟨h1, _⟩
    · exact hn
    · exact O.nt c h1
/-- a cell that a call made -/
theorem Ow.add {H0 : Hp} {F0 : Hp} (O : Ow Z F cs H) (O0 : Ow Z F0 cs' H0) (hk : ∀ c ∈ cs, c.1 ∈ cs'.map (·.1)) (hn : H0 p = none) (hf : F p = none) (h : H p = some o) (ht : noTup o = true := by rfl) : Ow Z F ((p, o) :: cs) H where
  g := O.g
  cf := fun c hc => by
    rcases List.mem_cons.mp hc with rfl | hc
    · exact hf
    · exact O.cf c hc
  ch := fun c hc => by
    rcases List.mem_cons.mp hc with rfl | hc
    · exact h
    · exact O.ch c hc
  nd := by
    rw [List.map_cons, List.nodup_cons]
    refine ⟨fun hm => ?_, O.nd⟩
    obtain ⟨c, hc, e⟩ := List.mem_map.mp hm
    obtain ⟨c', hc', e'⟩ := List.mem_map.mp (hk c hc)
    have z := O0.ch c' hc'
    rw [e', e] at z
    rw [z] at hn
    cases hn
  ca := fun c hc => by
    rcases List.mem_cons.mp hc with rfl | hc
    · refine .inr ?_
      cases q : Z.H p with
      | none => rfl
      | some u => exact absurd hn (O0.g.t p (by rw [q]; simp))
    · exact O.ca c hc
  nt := fun c hc => by
    rcases List.mem_cons.mp hc with rfl | hc
    · exact ht
    · exact O.nt c hc
theorem Ow.kp (O : Ow Z F cs H) : Kp Z.as Z.H H := ⟨O.g.k, O.g.t⟩
theorem Kp.of {as : List Addr} {H0 H1 : Hp} (g : Gr as F H0 F' H1) : Kp as H0 H1 := ⟨g.k, g.t⟩
/-- an error of a call leaves this def -/
theorem Ow.kpCall {as : List Addr} {H1 : Hp} (O : Ow Z F cs H) (k : Kp as H H1) (ha : ∀ b ∈ as, ∃ o, (b, o) ∈ cs) : Kp Z.as Z.H H1 where
  k := fun b u hb e => by
    refine k.k b u (fun z => ?_) (O.g.k b u hb e)
    obtain ⟨o, hc⟩ := ha b z
    rcases O.ca _ hc with h | h
    · exact hb h
    · have h' : Z.H b = none := h
      rw [h'] at e; cases e
  t := fun b e => k.t b (O.g.t b e)
theorem Ow.kp0 {H1 : Hp} (O : Ow Z F cs H) (k : Kp [] H H1) : Kp Z.as Z.H H1 := O.kpCall k fun _ h => nomatch h
theorem Ow.kp1 {H1 : Hp} (O : Ow Z F cs H) (k : Kp [a] H H1) (i : Nat) (e : cs[i]? = some (a, o)) : Kp Z.as Z.H H1 := O.kpCall k fun b hb => by
  rw [List.mem_singleton.mp hb]
  exact ⟨o, List.mem_of_getElem? e⟩
end
end PG

set_option Elab.async false
set_option linter.all false
set_option maxRecDepth 100000
set_option maxHeartbeats 4000000
namespace PG
open PySem L2
open PySem.W (T3 T4 Datum DatumOrd Holds HoldAll EachIs)
variable {K0 : PySem.W.Frag} [KF K0]
/-! ### rules over typed data -/
section
variable {X : Cx} {pins : List (Addr × Obj)} {σ : St} {H : Hp} {s : Shared} {v : V} {u : Value} {vs : List V} {us : List Value}
theorem R.holds [KF X.K] {a : Type} [Py a] [DecidableEq a] [Datum a] [IsD a] {x : a} (I : Inv X pins σ H s) (h : R H v x) (r : RelV v u) : Holds s.heap u x := by
  obtain ⟨as, q⟩ := Dp.reads I _ _ _ (Rep.dp _ _ h) r
  rw [IsD.eq] at q
  exact ⟨as, q⟩
theorem RL.holds [KF X.K] {a : Type} [Py a] [DecidableEq a] [Datum a] [IsD a] {xs : List a} (I : Inv X pins σ H s) (h : RL H vs xs) (r : Vals vs us) : HoldAll s.heap us xs := by
  obtain ⟨as, q⟩ := Dp.readsAll I _ _ _ (RepA.dp _ _ h) r
  rw [map_toD] at q
  exact ⟨as, q⟩
end
section
variable {X : Cx} (a : Type) [Py a] [DecidableEq a] [Datum a] [IsD a]
def rEqT : R2 := fun x y H Q => ∃ p q : a, R H x p ∧ R H y q ∧ Q (.bl (decide (p = q))) H
def rNeT : R2 := fun x y H Q => ∃ p q : a, R H x p ∧ R H y q ∧ Q (.bl (decide (p ≠ q))) H
theorem op_eqT (hu : X.A.units + 64 < cLine) (hd : Datum.depth a ≤ 64 := by decide) (hK : X.K = K0 := by rfl) : OpR X (compareOp .Eq) (rEqT a) := by
  subst hK
  intro pins s σ H x y v u Q I rx ry h
  obtain ⟨p, q, hp, hq, k⟩ := h
  exact PySem.W.eq_datum (hp.holds I rx) (hq.holds I ry) (by omega) ⟨.bl _, H, I, rfl, k⟩
theorem op_neT (hu : X.A.units + 64 < cLine) (hd : Datum.depth a ≤ 64 := by decide) (hK : X.K = K0 := by rfl) : OpR X (compareOp .NotEq) (rNeT a) := by
  subst hK
  intro pins s σ H x y v u Q I rx ry h
  obtain ⟨p, q, hp, hq, k⟩ := h
  exact PySem.W.ne_datum (hp.holds I rx) (hq.holds I ry) (by omega) ⟨.bl _, H, I, rfl, k⟩
def rInT (neg : Bool) : R2 := fun x y H Q => ∃ (p : a) (l : Addr) (vs : List V) (ys : List a), R H x p ∧ y = .ref l ∧ (H l = some (.lst vs) ∨ TupAt H l vs) ∧ RL H vs ys ∧ Q (.bl (if neg then decide (p ∉ ys) else decide (p ∈ ys))) H
end
section
variable {X : Cx} (a : Type) [Py a] [DecidableEq a] [Datum a] [IsD a]
theorem op_inT (hu : X.A.units + 64 < cLine) (hd : Datum.depth a ≤ 60 := by decide) (hK : X.K = K0 := by rfl) : OpR X (compareOp .In) (rInT a false) := by
  subst hK
  intro pins s σ H x y v u Q I rx ry h
  obtain ⟨p, l, vs, ys, hp, rfl, hl, hy, k⟩ := h
  cases ry
  rcases hl with hl | hl
  · obtain ⟨its, rv, hL, _⟩ := I.list (SqL.of (K := X.K) hl)
    exact PySem.W.in_list_datum hL.isList (by simpa using hy.holds I rv) (hp.holds I rx) (by omega) ⟨.bl _, H, I, rfl, k⟩
  · obtain ⟨its, rv, hL, _⟩ := I.tuple hl.sq
    exact PySem.W.in_tuple_datum (show s.heap.IsTuple l its.toArray from hL) (by simpa using hy.holds I rv) (hp.holds I rx) (by omega) ⟨.bl _, H, I, rfl, k⟩
theorem op_ninT (hu : X.A.units + 64 < cLine) (hd : Datum.depth a ≤ 60 := by decide) (hK : X.K = K0 := by rfl) : OpR X (compareOp .NotIn) (rInT a true) := by
  subst hK
  intro pins s σ H x y v u Q I rx ry h
  obtain ⟨p, l, vs, ys, hp, rfl, hl, hy, k⟩ := h
  cases ry
  rcases hl with hl | hl
  · obtain ⟨its, rv, hL, _⟩ := I.list (SqL.of (K := X.K) hl)
    exact PySem.W.notIn_list_datum hL.isList (by simpa using hy.holds I rv) (hp.holds I rx) (by omega) ⟨.bl _, H, I, rfl, k⟩
  · obtain ⟨its, rv, hL, _⟩ := I.tuple hl.sq
    exact PySem.W.notIn_tuple_datum (show s.heap.IsTuple l its.toArray from hL) (by simpa using hy.holds I rv) (hp.holds I rx) (by omega) ⟨.bl _, H, I, rfl, k⟩
end

/-! ### sorted -/
/-- how data may be sorted: all are tuples with an item, or none is a tuple or None -/
class SortB (a : Type) [DecidableEq a] [Datum a] : Prop where
  ok : (∀ x : a, ∃ d r, Datum.toD x = .tuple (d :: r)) ∨ ∀ x : a, Datum.toD x ≠ .none ∧ ∀ ds, Datum.toD x ≠ .tuple ds
instance : SortB Int := ⟨.inr fun x => ⟨(fun e => nomatch (show PyData.int x = .none from e)), fun ds e => nomatch (show PyData.int x = .tuple ds from e)⟩⟩
instance : SortB Str := ⟨.inr fun x => ⟨(fun e => nomatch (show PyData.str x = .none from e)), fun ds e => nomatch (show PyData.str x = .tuple ds from e)⟩⟩
section
variable {a b c : Type} [DecidableEq a] [Datum a] [DecidableEq b] [Datum b] [DecidableEq c] [Datum c]
instance : SortB (List a) := ⟨.inr fun x => ⟨(fun e => nomatch (show PyData.list _ = .none from e)), fun ds e => nomatch (show PyData.list _ = .tuple ds from e)⟩⟩
instance : SortB (a × b) := ⟨.inl fun x => ⟨_, _, rfl⟩⟩
instance : SortB (T3 a b c) := ⟨.inl fun x => ⟨_, _, rfl⟩⟩
end
/-- Python's order -/
def leT {a : Type} [DecidableEq a] [DatumOrd a] (x y : a) : Bool := !DatumOrd.lt y x
def sortT {a : Type} [DecidableEq a] [DatumOrd a] (xs : List a) : List a := xs.mergeSort leT
theorem dataLe_T {a β : Type} [DecidableEq a] [DatumOrd a] (f : β → a) : PySem.W.dataLe false (fun b => Datum.toD (f b)) = fun x y => leT (f x) (f y) := by
  funext x y
  rw [PySem.W.dataLe_eq]
  show (!PySem.W.dataLt (Datum.toD (f y)) (Datum.toD (f x))) = _
  rw [DatumOrd.lt_eq]
  rfl
section
variable {a : Type} [Py a] [DecidableEq a] [DatumOrd a] [IsD a] {H : Hp}
theorem each_pairs : ∀ {vs : List V} {xs : List a} {us : List Value}, RL H vs xs → Vals vs us → EachIs (fun (u : Value) (p : V × a) => RelV p.1 u ∧ R H p.1 p.2) us (vs.zip xs)
  | _, [], _, h, r => by
    rw [RL.nil_ h] at r ⊢
    cases r
    exact .nil
  | _, x :: xs, _, h, r => by
    obtain ⟨w, ws, rfl, h1, h2⟩ := RL.cons_ h
    cases r with
    | cons r1 r2 => exact .cons ⟨r1, h1⟩ (each_pairs h2 r2)
theorem pairs_vals : ∀ {ps : List (V × a)} {us : List Value}, EachIs (fun (u : Value) (p : V × a) => RelV p.1 u ∧ R H p.1 p.2) us ps → Vals (ps.map (·.1)) us ∧ RL H (ps.map (·.1)) (ps.map (·.2))
  | _, _, .nil => ⟨.nil, RL.nil⟩
  | _, _, .cons ⟨r1, h1⟩ t => ⟨.cons r1 (pairs_vals t).1, RL.cons h1 (pairs_vals t).2⟩
theorem each_imp {β γ : Type} {A B : β → γ → Prop} (f : ∀ x y, A x y → B x y) : ∀ {xs : List β} {ys : List γ}, EachIs A xs ys → EachIs B xs ys
  | _, _, .nil => .nil
  | _, _, .cons h t => .cons (f _ _ h) (each_imp f t)
theorem zip_snd : ∀ {vs : List V} {xs : List a}, vs.length = xs.length → (vs.zip xs).map (·.2) = xs
  | [], [], _ => rfl
  | v :: vs, x :: xs, h => by
    rw [List.zip_cons_cons, List.map_cons, zip_snd (by simpa using h)]
  | [], _ :: _, h => by simp at h
  | _ :: _, [], h => by simp at h
theorem sort_zip {vs : List V} {xs : List a} (h : vs.length = xs.length) : ((vs.zip xs).mergeSort fun p q => leT p.2 q.2).map (·.2) = sortT xs := by
  unfold sortT
  rw [List.map_mergeSort (s := leT) (fun _ _ _ _ => rfl), zip_snd h]
end
section
variable {a : Type} [Py a] [DecidableEq a] [DatumOrd a] [IsD a] {H : Hp}
def sortV (ws : List V) (xs : List a) : List V := ((ws.zip xs).mergeSort fun p q => leT p.2 q.2).map (·.1)
theorem RL.pairs : ∀ {ws : List V} {xs : List a}, RL H ws xs → ∀ p ∈ ws.zip xs, R H p.1 p.2
  | _, [], _, p, hp => by simp at hp
  | _, x :: xs, h, p, hp => by
    obtain ⟨w, ws, rfl, h1, h2⟩ := RL.cons_ h
    rw [List.zip_cons_cons] at hp
    rcases List.mem_cons.mp hp with rfl | hp
    · exact h1
    · exact RL.pairs h2 p hp
theorem RL.of_pairs : ∀ {ps : List (V × a)}, (∀ p ∈ ps, R H p.1 p.2) → RL H (ps.map (·.1)) (ps.map (·.2))
  | [], _ => RL.nil
  | p :: ps, h => RL.cons (h p List.mem_cons_self) (RL.of_pairs fun q hq => h q (List.mem_cons_of_mem _ hq))
theorem RL.sorted {ws : List V} {xs : List a} (h : RL H ws xs) : RL H (sortV ws xs) (sortT xs) := by
  have q : RL H (sortV ws xs) (((ws.zip xs).mergeSort fun p q => leT p.2 q.2).map (·.2)) := RL.of_pairs fun p hp => h.pairs p (List.mem_mergeSort.mp hp)
  rw [sort_zip h.len] at q
  exact q
end
section
variable {X : Cx} (a : Type) [Py a] [DecidableEq a] [DatumOrd a] [IsD a]
/-- sorted(xs) of a list: a new list -/
def rSortedT : List V → Hp → VK → Prop := fun vs H Q => ∃ (l : Addr) (ws : List V) (xs : List a), vs = [.ref l] ∧ H l = some (.lst ws) ∧ RL H ws xs ∧ ∀ (p : Addr), H p = none → Q (.ref p) (upd H p (.lst (sortV ws xs)))
theorem cr_sortedT [SortB a] (hu : X.A.units + 128 < cLine) (hd : Datum.depth a ≤ 100 := by decide) (hK : X.K = K0 := by rfl) : CallR X (.builtin "sorted") (rSortedT a) := by
  subst hK
  intro pins s σ H vs us Q I r h
  obtain ⟨l, ws, xs, rfl, hl, hx, k⟩ := h
  obtain ⟨its, rv, hL, hz⟩ := I.list (SqL.of (K := X.K) hl)
  rw [Vals.ref1 r]
  have hlen : ws.length = xs.length := hx.len
  have hE := each_pairs hx rv
  refine PySem.W.sorted_data (bs := ws.zip xs) (enc := fun p => Datum.toD p.2) hL.isList hE (each_imp (fun u p hp => hp.2.holds I hp.1) hE) (PySem.W.AllAlike.of fun p q => DatumOrd.alike p.2 q.2) ?_ (by rw [List.length_zip, ← hlen, Nat.min_self]; exact hz) (fun p _ => ?_) fun out ho he => ?_
  · rcases SortB.ok (a := a) with q | q
    · exact PySem.W.Sortable.tuples fun p => q p.2
    · exact PySem.W.Sortable.others fun p => q p.2
  · have := Datum.depth_le p.2
    omega
  · rw [dataLe_T (fun p : V × a => p.2)] at he
    obtain ⟨q1, q2⟩ := pairs_vals he
    obtain ⟨ep, he'⟩ := PyProof.Rows.sortedAll_at s.heap its out.toArray
    refine ⟨.ref _, upd H (s.heap.objs.size + 1) (.lst _), I.laid (t' := s.toks) (fun _ _ => PyProof.Rows.sortedAll_old) (Nat.le_succ _) ⟨?_, out, ep, q1, he'⟩, rfl, k _ (I.hok.fresh (Nat.le_succ _))⟩
    rw [List.length_map, List.length_mergeSort, List.length_zip, ← hlen, Nat.min_self]
    exact hz
end
end PG

set_option Elab.async false
set_option linter.all false
set_option maxRecDepth 100000
set_option maxHeartbeats 4000000
namespace PG
open PySem PySem.Spec PyProof.Rows L2
open PySem.W (T3 T4 Datum DatumOrd Holds HoldAll EachIs)
variable {K0 : PySem.W.Frag} [KF K0]

instance (i j : Int) : Decidable (CMulW i j) := inferInstanceAs (Decidable (_ < _))
instance (i j : Int) : Decidable (CDivW i j) := inferInstanceAs (Decidable (_ ∧ _))
instance (i j : Int) : Decidable (CPow i j) := inferInstanceAs (Decidable (_ ∧ _ ∧ _))
theorem szl : sizeLine = 16777216 := sizeLine_eq
theorem lt_line {n : Nat} (h : n < 16777216) : n < sizeLine := by rw [szl]; exact h
theorem le_line {n : Nat} (h : n < 16777216) : n ≤ sizeLine := Nat.le_of_lt (lt_line h)
theorem len_line {vs : List V} (h : vs.length < 16777216 := by (show _ < 16777216); simp) : vs.length ≤ sizeLine := le_line h
theorem SqLF {K : PySem.W.Frag} {F H : Hp} {p : Addr} {vs : List V} (s : Same F H) (h : F p = some (.lst vs)) : SqL K H p vs := SqL.of (s _ _ h)
theorem SqTF {K : PySem.W.Frag} {F H : Hp} {p : Addr} {vs : List V} (s : Same F H) (h : F p = some (.tup vs)) : SqT K H p vs := SqT.of (s _ _ h)
theorem SqTK {F H : Hp} {p : Addr} {vs : List V} (s : Same F H) (h : TupAt F p vs) : SqT K0 H p vs := (h.mono s).sq

/-! ### mirrors of what may go wrong -/
def setI {a : Type} (xs : List a) (i : Int) (y : a) : M (List a) := match ixN xs.length i with
  | some j => .ok (xs.set j y)
  | none => bad
def popI {a : Type} (xs : List a) (i : Int) : M (a × List a) := if xs.length < 16777216 then (match ixN xs.length i with
    | some j => (match xs[j]? with
      | some y => .ok (y, xs.eraseIdx j)
      | none => bad)
    | none => bad) else bad
def popL {a : Type} (xs : List a) : M (a × List a) := match xs[xs.length - 1]? with
  | some y => .ok (y, xs.dropLast)
  | none => bad
def appL {a : Type} (xs : List a) (y : a) : M (List a) := if xs.length < 16777216 then .ok (xs ++ [y]) else bad
def rangeL (lo hi : Int) : List Int := (List.range (hi - lo).toNat).map fun (i : Nat) => lo + (i : Int)
def okR (i : Int) : Prop := -1000000 ≤ i ∧ i ≤ 1000000
instance (i : Int) : Decidable (okR i) := inferInstanceAs (Decidable (_ ∧ _))
theorem okR.lo {i : Int} (h : okR i) : -(2 ^ 62) ≤ i := by obtain ⟨a, b⟩ := h; omega
theorem okR.hi {i : Int} (h : okR i) : i < 2 ^ 62 := by obtain ⟨a, b⟩ := h; omega
theorem rangeL_get {lo hi : Int} {i : Nat} (h : i < (hi - lo).toNat) : (rangeL lo hi).drop i = (lo + (i : Int)) :: (rangeL lo hi).drop (i + 1) := by
  unfold rangeL
  rw [List.drop_eq_getElem_cons (by simpa using h)]
  simp
theorem rangeL_end {lo hi : Int} : (rangeL lo hi).drop (hi - lo).toNat = [] := by
  rw [List.drop_eq_nil_iff]
  unfold rangeL
  simp
section
variable {a b : Type} {Q : a → Prop} {E : String → Prop} {H : Hp}
theorem wp_setI {xs : List b} {i : Int} {y : b} {k : List b → M a} (h : wp (setI xs i y >>= k) Q E) : ∃ j, ixN xs.length i = some j ∧ wp (k (xs.set j y)) Q E := by
  unfold setI at h
  cases e : ixN xs.length i with
  | none => rw [e] at h; exact h.elim
  | some j => rw [e] at h; exact ⟨j, rfl, h⟩
theorem wp_popI {xs : List b} {i : Int} {k : b × List b → M a} (h : wp (popI xs i >>= k) Q E) : ∃ j y, seqIndex? i xs.length = some j ∧ -(2 ^ 63) ≤ i ∧ i < 2 ^ 63 ∧ xs[j]? = some y ∧ wp (k (y, xs.eraseIdx j)) Q E := by
  unfold popI at h
  by_cases hl : xs.length < 16777216
  · rw [if_pos hl] at h
    cases e : ixN xs.length i with
    | none => rw [e] at h; exact h.elim
    | some j =>
      rw [e] at h
      have h : wp ((match xs[j]? with
        | some y => .ok (y, xs.eraseIdx j)
        | none => bad) >>= k) Q E := h
      cases e2 : xs[j]? with
      | none => rw [e2] at h; exact h.elim
      | some y =>
        rw [e2] at h
        obtain ⟨q1, q2, q3, q4⟩ := ixN_seq e
        exact ⟨j, y, q1, by omega, by omega, e2, h⟩
  · rw [if_neg hl] at h
    exact h.elim
theorem wp_popL {xs : List b} {k : b × List b → M a} (h : wp (popL xs >>= k) Q E) : ∃ y, xs[xs.length - 1]? = some y ∧ wp (k (y, xs.dropLast)) Q E := by
  unfold popL at h
  cases e : xs[xs.length - 1]? with
  | none => rw [e] at h; exact h.elim
  | some y => rw [e] at h; exact ⟨y, rfl, h⟩
theorem wp_appL {xs : List b} {y : b} {k : List b → M a} (h : wp (appL xs y >>= k) Q E) : xs.length < sizeLine ∧ wp (k (xs ++ [y])) Q E := by
  unfold appL at h
  by_cases hl : xs.length < 16777216
  · rw [if_pos hl] at h
    exact ⟨lt_line hl, h⟩
  · rw [if_neg hl] at h
    exact h.elim
end
/-! loops, by what is left to be done -/
section
variable {i s r a c : Type} {Q : a → Prop} {E : String → Prop}
theorem loopN_L {b : i → s → M s} {xs : List i} {x : s} {k : s → M a} (h : wp (loopN b xs x >>= k) Q E) :
    ∃ L : List i → s → Prop, L xs x ∧ (∀ y ys x, L (y :: ys) x → wp (b y x) (fun x' => L ys x') E) ∧ ∀ x, L [] x → wp (k x) Q E := by
  refine ⟨fun ys x => wp (loopN b ys x >>= k) Q E, h, fun y ys x hx => ?_, fun x hx => hx⟩
  have hx : wp (loopN b (y :: ys) x >>= k) Q E := hx
  rw [wp_bind] at hx
  have hx : wp (b y x >>= fun x' => loopN b ys x') (fun x => wp (k x) Q E) E := hx
  rw [wp_bind] at hx
  cases e : b y x with
  | ok z =>
    rw [e] at hx
    exact wp_bind.mpr hx
  | error e2 =>
    rw [e] at hx
    cases e2 <;> exact hx
theorem loopM_L {b : i → s → M (Fl s r)} {xs : List i} {x : s} {k : Fl s r → M a} (h : wp (loopM b xs x >>= k) Q E) :
    ∃ L : List i → s → Prop, L xs x ∧ (∀ y ys x, L (y :: ys) x → wp (b y x) (fun f => match f with
      | .nx x' => L ys x'
      | .rt z => wp (k (.rt z)) Q E) E) ∧ ∀ x, L [] x → wp (k (.nx x)) Q E := by
  refine ⟨fun ys x => wp (loopM b ys x >>= k) Q E, h, fun y ys x hx => ?_, fun x hx => hx⟩
  have hx : wp (loopM b (y :: ys) x >>= k) Q E := hx
  rw [wp_bind] at hx
  cases e : b y x with
  | ok z =>
    have hx : wp (b y x >>= fun f => match f with
      | .nx x' => loopM b ys x'
      | .rt z => .ok (.rt z)) (fun x => wp (k x) Q E) E := hx
    rw [e] at hx
    cases z with
    | nx z => exact wp_bind.mpr hx
    | rt z => exact hx
  | error e2 =>
    have hx : wp (b y x >>= fun f => match f with
      | .nx x' => loopM b ys x'
      | .rt z => .ok (.rt z)) (fun x => wp (k x) Q E) E := hx
    rw [e] at hx
    cases e2 <;> exact hx
theorem whileN_L {c : s → M Bool} {b : s → M s} {n : Nat} {x : s} {k : s → M a} (h : wp (whileN c b n x >>= k) Q E) :
    ∃ L : Nat → s → Prop, L n x ∧ ∀ m x, L m x → wp (c x) (fun t => if t = true then ∃ m', m' < m ∧ wp (b x) (fun x' => L m' x') E else wp (k x) Q E) E := by
  refine ⟨fun n x => wp (whileN c b n x >>= k) Q E, h, fun m x hx => ?_⟩
  cases m with
  | zero => exact hx.elim
  | succ m =>
    have hx : wp ((c x >>= fun t => if t = true then b x >>= fun x' => whileN c b m x' else .ok x) >>= k) Q E := hx
    rw [wp_bind, wp_bind] at hx
    cases e : c x with
    | error e2 => rw [e] at hx; cases e2 <;> exact hx
    | ok t =>
      rw [e] at hx
      cases t with
      | false => exact hx
      | true =>
        refine ⟨m, Nat.lt_succ_self m, ?_⟩
        have hx : wp (b x >>= fun x' => whileN c b m x') (fun x => wp (k x) Q E) E := hx
        rw [wp_bind] at hx
        cases e : b x with
        | error e2 => rw [e] at hx; cases e2 <;> exact hx
        | ok z =>
          rw [e] at hx
          exact wp_bind.mpr hx
theorem whileM_L {c : s → M Bool} {b : s → M (Fl s r)} {n : Nat} {x : s} {k : Fl s r → M a} (h : wp (whileM c b n x >>= k) Q E) :
    ∃ L : Nat → s → Prop, L n x ∧ ∀ m x, L m x → wp (c x) (fun t => if t = true then ∃ m', m' < m ∧ wp (b x) (fun f => match f with
      | .nx x' => L m' x'
      | .rt z => wp (k (.rt z)) Q E) E else wp (k (.nx x)) Q E) E := by
  refine ⟨fun n x => wp (whileM c b n x >>= k) Q E, h, fun m x hx => ?_⟩
  cases m with
  | zero => exact hx.elim
  | succ m =>
    have hx : wp ((c x >>= fun t => if t = true then b x >>= fun
      | .nx x' => whileM c b m x'
      | .rt z => .ok (.rt z)
    else .ok (.nx x)) >>= k) Q E := hx
    rw [wp_bind, wp_bind] at hx
    cases e : c x with
    | error e2 => rw [e] at hx; cases e2 <;> exact hx
    | ok t =>
      rw [e] at hx
      cases t with
      | false => exact hx
      | true =>
        refine ⟨m, Nat.lt_succ_self m, ?_⟩
        have hx : wp (b x >>= fun
          | .nx x' => whileM c b m x'
          | .rt z => .ok (.rt z)) (fun x => wp (k x) Q E) E := hx
        rw [wp_bind] at hx
        cases e : b x with
        | error e2 => rw [e] at hx; cases e2 <;> exact hx
        | ok z =>
          rw [e] at hx
          cases z with
          | nx z => exact wp_bind.mpr hx
          | rt z => exact hx
/-- a comprehension: what it has made so far, then the items left; no exception leaves it -/
def compX (b : i → s → M (Option c × s)) : List i → List c → s → M (List c × s)
  | [], acc, x => .ok (acc, x)
  | y :: ys, acc, x => nox (b y x) >>= fun p => compX b ys (match p.1 with
    | some z => acc ++ [z]
    | none => acc) p.2
/-- the list is short enough -/
def compS (b : i → s → M (Option c × s)) (xs : List i) (x : s) : M (List c × s) := chk (xs.length < 16777216) >>= fun _ => compX b xs [] x
theorem compX_L {b : i → s → M (Option c × s)} {k : List c × s → M a} : ∀ {xs : List i} {acc : List c} {x : s}, wp (compX b xs acc x >>= k) Q E →
    ∃ L : List i → List c → s → Prop, L xs acc x ∧ (∀ y ys acc x, L (y :: ys) acc x → wp (b y x) (fun p => L ys (match p.1 with
      | some z => acc ++ [z]
      | none => acc) p.2) (fun _ => False)) ∧ ∀ acc x, L [] acc x → wp (k (acc, x)) Q E := by
  intro xs acc x h
  refine ⟨fun ys acc x => wp (compX b ys acc x >>= k) Q E, h, fun y ys acc x hx => ?_, fun acc x hx => hx⟩
  have hx : wp ((nox (b y x) >>= fun p => compX b ys (match p.1 with
    | some z => acc ++ [z]
    | none => acc) p.2) >>= k) Q E := hx
  rw [wp_bind] at hx
  obtain ⟨p, e, hx⟩ := wp_nox hx
  rw [e]
  exact wp_bind.mpr hx
theorem compS_L {b : i → s → M (Option c × s)} {k : List c × s → M a} {xs : List i} {x : s} (h : wp (compS b xs x >>= k) Q E) : xs.length < 16777216 ∧
    ∃ L : List i → List c → s → Prop, L xs [] x ∧ (∀ y ys acc x, L (y :: ys) acc x → wp (b y x) (fun p => L ys (match p.1 with
      | some z => acc ++ [z]
      | none => acc) p.2) (fun _ => False)) ∧ ∀ acc x, L [] acc x → wp (k (acc, x)) Q E := by
  unfold compS at h
  rw [wp_bind] at h
  obtain ⟨h1, h2⟩ := wp_chk h
  exact ⟨h1, compX_L (wp_bind.mpr h2)⟩
end
theorem drop_at {a : Type} {xs : List a} {i : Nat} {x : a} (h : xs[i]? = some x) : xs.drop i = x :: xs.drop (i + 1) := by
  obtain ⟨h1, h2⟩ := List.getElem?_eq_some_iff.mp h
  rw [List.drop_eq_getElem_cons h1, h2]
theorem drop_end {a : Type} {xs : List a} {vs : List V} (h : vs.length = xs.length) : xs.drop vs.length = [] := by
  rw [h, List.drop_length]

/-! ### a def as it stands -/
structure Df (K : PySem.W.Frag) (mg : Str → Option Value) (x qual : Str) (st : Stmt) (ps : List Str) : Prop where
  ex : ∃ f fd, Fun K x qual st f fd ∧ mg x = some (.ref f) ∧ Binds K fd ps []
structure Ca (P : Program) (w : World) (K : PySem.W.Frag) (mg : Str → Option Value) (base : Heap) (x : Str) (k : Nat) (ps : List Str) (sp : Sp) : Prop where
  ex : ∃ f fd, FnOk P w K mg base (L2.CX P w) k f fd ps sp ∧ mg x = some (.ref f) ∧ PySem.W.keepIn K (.ref f) = true ∧ Binds K fd ps []
/-- an exception class of the program -/
structure Xc (K : PySem.W.Frag) (mg : Str → Option Value) (x : Str) (C : Addr) : Prop where
  g : mg x = some (.ref C)
  x : PySem.W.excIn K C [.type "ValueError", .type "Exception", .type "BaseException", .type "object"] "ValueError.__new__" = true
  k : PySem.W.keepIn K (.ref C) = true
  b : PySem.W.subIn K (.ref C) (.type "BaseException") = some true
  t : PySem.W.typeIn K (.ref C) = some (.type "type")
section
variable {P : Program} {w : World} {K : PySem.W.Frag} {mg : Str → Option Value} {base : Heap}
theorem Ca.mk' {x qual : Str} {st : Stmt} {N ps : List Str} {k : Nat} {sp : Sp} (D : Df K mg x qual st ps) (S : FnScope N ps (defScope st)) (len : ∀ vs H Q E, sp vs H Q E → vs.length = ps.length)
    (hbody : ∀ (qual' : Str) (f : Addr) (cdv : Value) (A : Around) (outer : List Env) (s : Shared) (H : Hp) (vs : List V) (Q : VK) (E : XK), Room k (A.deeper (envOfC qual (defScope st) s.heap.objs.size f cdv)) → sp vs H Q E →
      ∃ t, PSs (cxOf (L2.CX P w) P w K mg base N qual (defScope st) f cdv A outer s H E) (defBody st) t ∧ t { nx := fun _ H' => Q .non H', rt := Q } (start N vs) H) : Ca P w K mg base x (k + 1) ps sp := by
  obtain ⟨f, fd, F, m, b⟩ := D.ex
  exact ⟨f, fd, F.okX S len fun cdv A outer s H vs Q E hr h => hbody qual f cdv A outer s H vs Q E hr h, m, F.kp, b⟩
end
section
variable {X : Cx}
/-- len of a list or tuple -/
def rLenT : List V → Hp → VK → Prop := fun vs H Q => ∃ (l : Addr) (ws : List V) (n : Nat), vs = [.ref l] ∧ (H l = some (.lst ws) ∨ H l = some (.tup ws)) ∧ ws.length = n ∧ Q (.int n) H
theorem call_lenT : CallR X (.builtin "len") rLenT := by
  intro pins s σ H vs us Q I r h
  obtain ⟨l, ws, n, e, hl, rfl, k⟩ := h
  refine call_len_seq pins s σ H vs us Q I r ⟨l, ws, e, ?_, k⟩
  rcases hl with hl | hl
  · exact .inl (SqL.of hl)
  · exact .inr (SqT.of hl)
end

section
variable {Z : Ent} {F F' H H' : Hp} {cs : List (Addr × HO)} {p a : Addr} {o o' : HO}
theorem Ow.putE (O : Ow Z F cs H) (h : H p = none) (o : HO) : ∃ F', Ow Z F' cs (upd H p o) ∧ Same F F' ∧ F' p = some o := ⟨_, O.put h, O.putS h, upd_same⟩
theorem Ow.was (O : Ow Z F cs H) (h : H p = none) : Z.H p = none := by
  cases q : Z.H p with
  | none => rfl
  | some u => exact absurd h (O.g.t p (by rw [q]; simp))
theorem Ow.frzE (O : Ow Z F cs H) (i : Nat) (e : cs[i]? = some (a, o)) (hz : Z.H a = none) : ∃ F', Ow Z F' (cs.eraseIdx i) H ∧ Same F F' ∧ F' a = some o := ⟨_, O.frz i e hz, O.frzS i e, upd_same⟩
/-- a cell that a call made -/
theorem Ow.got (O : Ow Z F cs H) (O' : Ow Z F' cs' H') (hk : cs'.map (·.1) = cs.map (·.1)) (hn : H p = none) (hf : F' p = none) (h : H' p = some o) (ht : noTup o = true := by rfl) : Ow Z F' ((p, o) :: cs') H' :=
  O'.add O (fun c hc => by rw [← hk]; exact List.mem_map.mpr ⟨c, hc, rfl⟩) hn hf h ht
end
theorem rangeL_get0 {n : Int} {i : Nat} (h : i < n.toNat) : (rangeL 0 n).drop i = (0 + (i : Int)) :: (rangeL 0 n).drop (i + 1) := rangeL_get (by simpa using h)
theorem rangeL_end0 {n : Int} : (rangeL 0 n).drop n.toNat = [] := by
  have := rangeL_end (lo := 0) (hi := n)
  simpa using this
theorem iteD {c A B : Prop} [Decidable c] (h1 : c → A) (h2 : ¬ c → B) : if decide c = true then A else B := by
  by_cases h : c
  · rw [decide_eq_true h, if_pos rfl]; exact h1 h
  · rw [decide_eq_false h, if_neg Bool.false_ne_true]; exact h2 h
theorem iteN {c A B : Prop} [Decidable c] (h1 : c → B) (h2 : ¬ c → A) : if (!decide c) = true then A else B := by
  by_cases h : c
  · rw [decide_eq_true h]; exact h1 h
  · rw [decide_eq_false h]; exact h2 h
theorem iteB {b : Bool} {A B : Prop} (h1 : b = true → A) (h2 : ¬ b = true → B) : if b = true then A else B := by
  cases b with
  | true => exact h1 rfl
  | false => exact h2 Bool.false_ne_true
theorem iteBN {b : Bool} {A B : Prop} (h1 : b = true → B) (h2 : ¬ b = true → A) : if (!b) = true then A else B := by
  cases b with
  | true => exact h1 rfl
  | false => exact h2 Bool.false_ne_true
theorem iteNT {A B : Prop} (h : B) : if (!true) = true then A else B := h
theorem iteNF {A B : Prop} (h : A) : if (!false) = true then A else B := h
theorem wp_if {a : Type} {Q : a → Prop} {E : String → Prop} {c : Prop} [Decidable c] {x y : M a} (h : wp (if c then x else y) Q E) (hc : c) : wp x Q E := by
  rw [if_pos hc] at h
  exact h
theorem wp_el {a : Type} {Q : a → Prop} {E : String → Prop} {c : Prop} [Decidable c] {x y : M a} (h : wp (if c then x else y) Q E) (hc : ¬ c) : wp y Q E := by
  rw [if_neg hc] at h
  exact h

theorem hu128_of {A : Around} {k : Nat} (hr : Room k A) : A.units + 128 < cLine := by have := hr.un; omega
def cutL {a : Type} (xs : List a) (lo hi : Option Int) : List a := (xs.drop (HT.sIx xs.length 0 lo)).take (HT.sIx xs.length xs.length hi - HT.sIx xs.length 0 lo)
theorem RL.cutL {a : Type} [Py a] {H : Hp} {vs : List V} {xs : List a} (h : RL H vs xs) (lo hi : Option Int) : RL H (cutV vs lo hi) (PG.cutL xs lo hi) := h.cut lo hi
theorem RL.last {a : Type} [Py a] {H : Hp} {vs : List V} {xs : List a} {y : a} (h : RL H vs xs) (e : xs[xs.length - 1]? = some y) : ∃ w, vs[vs.length - 1]? = some w ∧ R H w y := by
  obtain ⟨w, e1, h1⟩ := h.get e
  exact ⟨w, by rw [h.len]; exact e1, h1⟩

theorem okR.rg1 {n : Int} (h : okR n) : RgOk 0 n := by
  obtain ⟨a, b⟩ := h
  exact ⟨by omega, by omega, by omega, by omega, by omega⟩
theorem rgV_eq (a b : Int) : rgV a b = (rangeL a b).map V.int := by
  unfold rgV rangeL
  rw [List.map_map]
  rfl
theorem RL.rg {H : Hp} {a b : Int} : RL H (rgV a b) (rangeL a b) := by
  rw [rgV_eq]
  exact RL.of_ints

theorem comp_len {b : Type} {w vs : List V} {xs : List b} {i : Nat} {x : V} (la : w.length ≤ i) (hi : vs[i]? = some x) (hl : vs.length = xs.length) (c : xs.length < 16777216) : w.length < sizeLine := by
  have := (List.getElem?_eq_some_iff.mp hi).1
  exact lt_line (by omega)
theorem rangeL_length (lo hi : Int) : (rangeL lo hi).length = (hi - lo).toNat := by
  unfold rangeL
  simp
theorem comp_lenR {w : List V} {lo hi : Int} {i n : Nat} (la : w.length ≤ i) (h : i < n) (e : (hi - lo).toNat = n) (c : (rangeL lo hi).length < 16777216) : w.length < sizeLine := by
  rw [rangeL_length] at c
  exact lt_line (by omega)
theorem tYes_ {σ : L2.St} {H : Hp} {Q : Bool → Hp → Prop} (h : Q true H) : tYes σ H Q := h

/-! lists of own lists of ints -/
abbrev LC := Addr × List Int
def lcell (c : LC) : Addr × HO := (c.1, .lst (c.2.map V.int))
theorem Ow.perm {Z : Ent} {F H : Hp} {cs cs' : List (Addr × HO)} (O : Ow Z F cs H) (h : cs.Perm cs') : Ow Z F cs' H where
  g := O.g
  cf := fun c hc => O.cf c (h.mem_iff.mpr hc)
  ch := fun c hc => O.ch c (h.mem_iff.mpr hc)
  nd := (h.map _).nodup_iff.mp O.nd
  ca := fun c hc => O.ca c (h.mem_iff.mpr hc)
  nt := fun c hc => O.nt c (h.mem_iff.mpr hc)
theorem Ow.sub {Z : Ent} {F H : Hp} {cs cs' : List (Addr × HO)} (O : Ow Z F cs H) (h : cs'.Sublist cs) : Ow Z F cs' H where
  g := O.g
  cf := fun c hc => O.cf c (h.subset hc)
  ch := fun c hc => O.ch c (h.subset hc)
  nd := O.nd.sublist (h.map _)
  ca := fun c hc => O.ca c (h.subset hc)
  nt := fun c hc => O.nt c (h.subset hc)
/-- a new list of new lists -/
structure OwnLL (H F' H' : Hp) (p : Addr) (ps : List LC) : Prop where
  pn : H p = none
  pf : F' p = none
  ph : H' p = some (.lst (ps.map fun c => V.ref c.1))
  qn : ∀ c ∈ ps, H c.1 = none
  qf : ∀ c ∈ ps, F' c.1 = none
  qh : ∀ c ∈ ps, H' c.1 = some (.lst (c.2.map V.int))
  nd : (p :: ps.map (·.1)).Nodup
theorem OwnLL.frz {F H F' H' : Hp} {p : Addr} {ps : List LC} {as : List Addr} (G : Gr as F H F' H') (L : OwnLL H F' H' p ps) :
    ∃ F2, Gr as F H F2 H' ∧ F2 p = none ∧ RL F2 (ps.map fun c => V.ref c.1) (ps.map (·.2)) := by
  refine ⟨fun b => if b ∈ ps.map (·.1) then H' b else F' b, ⟨fun b o e => ?_, fun b o e => ?_, G.k, G.t, fun b e => ?_, G.u⟩, ?_, ?_⟩
  · have h1 := G.f b o e
    by_cases hb : b ∈ ps.map (·.1)
    · obtain ⟨c, hc, rfl⟩ := List.mem_map.mp hb
      rw [L.qf c hc] at h1
      cases h1
    · show (if b ∈ ps.map (·.1) then H' b else F' b) = some o
      rw [if_neg hb]
      exact h1
  · have e : (if b ∈ ps.map (·.1) then H' b else F' b) = some o := e
    by_cases hb : b ∈ ps.map (·.1)
    · rw [if_pos hb] at e
      exact e
    · rw [if_neg hb] at e
      exact G.s b o e
  · show (if b ∈ ps.map (·.1) then H' b else F' b) = F b ∨ _
    have hb : b ∉ ps.map (·.1) := fun hb => by
      obtain ⟨c, hc, rfl⟩ := List.mem_map.mp hb
      exact e (L.qn c hc)
    rw [if_neg hb]
    exact G.n b e
  · show (if p ∈ ps.map (·.1) then H' p else F' p) = none
    rw [if_neg (List.nodup_cons.mp L.nd).1]
    exact L.pf
  · have all : ∀ l : List LC, (∀ c ∈ l, c ∈ ps) → RL (fun b => if b ∈ ps.map (·.1) then H' b else F' b) (l.map fun c => V.ref c.1) (l.map (·.2)) := by
      intro l
      induction l with
      | nil => intro _; exact RL.nil
      | cons c l ih =>
        intro h
        have hc := h c List.mem_cons_self
        refine RL.cons (R.lst (vs := c.2.map V.int) ?_ RL.of_ints) (ih fun d hd => h d (List.mem_cons_of_mem _ hd))
        show (if c.1 ∈ ps.map (·.1) then H' c.1 else F' c.1) = _
        rw [if_pos (List.mem_map.mpr ⟨c, hc, rfl⟩)]
        exact L.qh c hc
    exact all ps fun _ h => h
theorem FnOk.impC {P : Program} {w : World} {K : PySem.W.Frag} {mg : Str → Option Value} {base : Heap} {x : Str} {k : Nat} {ps : List Str} {sp sp' : Sp} (F : Ca P w K mg base x k ps sp) (h : ∀ vs H Q E, sp' vs H Q E → sp vs H Q E) : Ca P w K mg base x k ps sp' := by
  obtain ⟨f, fd, G, m, kp, b⟩ := F.ex
  exact ⟨f, fd, G.imp h, m, kp, b⟩
theorem wp_mono {a : Type} {Q Q' : a → Prop} {E : String → Prop} {m : M a} (h : wp m Q E) (f : ∀ r, Q r → Q' r) : wp m Q' E := wp_tail h (fun r _ q => f r q) fun _ e => e
/-- a scalar call that reads a cell: the cell is as it was, and nothing of the call is kept -/
theorem Ow.borrow {Z : Ent} {F F1 F' H H' : Hp} {cs : List (Addr × HO)} (O : Ow Z F cs H) (s1 : Same F F1) (g : Gr [] F1 H F' H') : Ow Z F cs H' where
  g := ⟨O.g.f, (s1.trans g.f).trans g.s, fun b o hb e => g.k b o (fun h => nomatch h) (O.g.k b o hb e), fun b e => g.t b (O.g.t b e), O.g.n, fun b xs e => by
    rcases g.u b xs e with z | z
    · refine .inl ?_
      cases q : Z.H b with
      | none => rfl
      | some u => exact absurd z (O.g.t b (by rw [q]; simp))
    · exact O.g.u b xs z⟩
  cf := O.cf
  ch := fun c hc => g.k _ _ (fun h => nomatch h) (O.ch c hc)
  nd := O.nd
  ca := O.ca
  nt := O.nt
theorem Ow.lend {Z : Ent} {F H : Hp} {cs : List (Addr × HO)} {a : Addr} {o : HO} (O : Ow Z F cs H) (i : Nat) (e : cs[i]? = some (a, o)) : ∃ F1, Same F F1 ∧ Pre F1 [] H ∧ F1 a = some o := by
  have m := List.mem_of_getElem? e
  refine ⟨upd F a o, Same.new (O.cf _ m), ⟨fun b u q => ?_, (fun _ h => nomatch h), (fun _ h => nomatch h), List.nodup_nil, fun _ h => nomatch h⟩, upd_same⟩
  by_cases hb : b = a
  · subst hb; rw [upd_same] at q; rw [← q]; exact O.ch _ m
  · rw [upd_ne hb] at q; exact O.s b u q

abbrev lrefs (ps : List LC) : List V := ps.map fun (c : LC) => V.ref c.1

def ret {a : Type} (x : a) : M a := .ok x
theorem wp_ret {a b : Type} {Q : a → Prop} {E : String → Prop} {x : b} {k : b → M a} (h : wp (ret x >>= k) Q E) : ∃ y, y = x ∧ wp (k y) Q E := ⟨x, rfl, h⟩

/-- tuples that stand may be read -/
theorem Ow.tups {Z : Ent} {F H : Hp} {cs : List (Addr × HO)} (O : Ow Z F cs H) (bs : List Addr) (h : ∀ b ∈ bs, ∃ xs, H b = some (.tup xs)) : ∃ F', Ow Z F' cs H ∧ Same F F' ∧ ∀ b ∈ bs, F' b = H b := by
  refine ⟨fun b => if b ∈ bs then H b else F b, ⟨⟨fun b o e => ?_, fun b o e => ?_, O.g.k, O.g.t, fun b e => ?_, O.g.u⟩, fun c hc => ?_, O.ch, O.nd, O.ca, O.nt⟩, fun b o e => ?_, fun b hb => if_pos hb⟩
  · have h1 := O.g.f b o e
    show (if b ∈ bs then H b else F b) = some o
    by_cases hb : b ∈ bs
    · rw [if_pos hb]; exact O.s b o h1
    · rw [if_neg hb]; exact h1
  · have e : (if b ∈ bs then H b else F b) = some o := e
    by_cases hb : b ∈ bs
    · rw [if_pos hb] at e; exact e
    · rw [if_neg hb] at e; exact O.s b o e
  · show (if b ∈ bs then H b else F b) = Z.F b ∨ _
    by_cases hb : b ∈ bs
    · obtain ⟨xs, hx⟩ := h b hb
      rcases O.g.u b xs hx with z | z
      · exact absurd z e
      · exact .inr ⟨xs, z⟩
    · rw [if_neg hb]; exact O.g.n b e
  · show (if c.1 ∈ bs then H c.1 else F c.1) = none
    by_cases hb : c.1 ∈ bs
    · obtain ⟨xs, hx⟩ := h c.1 hb
      have hn := O.nt c hc
      rw [O.ch c hc] at hx
      rw [Option.some.inj hx] at hn
      cases hn
    · rw [if_neg hb]; exact O.cf c hc
  · show (if b ∈ bs then H b else F b) = some o
    by_cases hb : b ∈ bs
    · rw [if_pos hb]; exact O.s b o e
    · rw [if_neg hb]; exact e
end PG

set_option Elab.async false
set_option linter.all false
set_option maxRecDepth 100000
set_option maxHeartbeats 4000000
namespace PG
open PySem PySem.Spec PyProof.Rows L2
open PySem.W (T3 T4 Datum DatumOrd Holds HoldAll EachIs)
variable {K0 : PySem.W.Frag} [KF K0]

theorem u1_of {n : Nat} (h : n + 64 < cLine) : n + 1 < cLine := Nat.lt_of_le_of_lt (Nat.add_le_add_left (by decide) _) h
/-! ### dicts: what stands for a key -/
class DK (κ : Type) (K' : outParam Type) where
  kk : κ → K'
  inj : ∀ a b, kk a = kk b → a = b
instance : DK Int Key := ⟨Sum.inl, fun _ _ h => Sum.inl.inj h⟩
instance : DK Str Key := ⟨Sum.inr, fun _ _ h => Sum.inr.inj h⟩
instance : DK (Int × Int) (List Key) := ⟨fun p => [.inl p.1, .inl p.2], fun a b h => by
  injection h with h1 h2
  injection h2 with h2 _
  exact Prod.ext (Sum.inl.inj h1) (Sum.inl.inj h2)⟩
section
variable {κ K' β : Type} [DK κ K'] [Py β]
inductive RD (F : Hp) : List (K' × V) → List (κ × β) → Prop
  | nil : RD F [] []
  | cons {k : κ} {v : V} {y : β} {kvs : List (K' × V)} {xs : List (κ × β)} : R F v y → RD F kvs xs → RD F ((DK.kk k, v) :: kvs) ((k, y) :: xs)
variable {F F' : Hp}
theorem RD.mono {kvs : List (K' × V)} {xs : List (κ × β)} (h : RD F kvs xs) (s : Same F F') : RD F' kvs xs := by
  induction h with
  | nil => exact .nil
  | cons h _ ih => exact .cons (h.mono s) ih
theorem RD.len {kvs : List (K' × V)} {xs : List (κ × β)} (h : RD F kvs xs) : kvs.length = xs.length := by
  induction h with
  | nil => rfl
  | cons h _ ih => rw [List.length_cons, List.length_cons, ih]
theorem RD.keys {kvs : List (K' × V)} {xs : List (κ × β)} (h : RD F kvs xs) : kvs.map (·.1) = (xs.map (·.1)).map DK.kk := by
  induction h with
  | nil => rfl
  | cons h _ ih => rw [List.map_cons, List.map_cons, List.map_cons, ih]
end
section
variable {κ K' β : Type} [DK κ K'] [DecidableEq κ] [DecidableEq K'] [Py β] {F F' : Hp}
def dGet (xs : List (κ × β)) (k : κ) : Option β := (xs.find? fun p => decide (p.1 = k)).map (·.2)
def dPut (xs : List (κ × β)) (k : κ) (y : β) : List (κ × β) :=
  if (xs.any fun p => decide (p.1 = k)) = true then xs.map (fun p => if p.1 = k then (p.1, y) else p) else xs ++ [(k, y)]
def dHas (xs : List (κ × β)) (k : κ) : Bool := (dGet xs k).isSome
theorem kk_dec {a b : κ} : decide ((DK.kk a : K') = DK.kk b) = decide (a = b) := by
  by_cases h : a = b
  · subst h; simp
  · rw [decide_eq_false h, decide_eq_false fun z => h (DK.inj a b z)]
theorem dGet_pos {p : κ × β} {r : List (κ × β)} {k : κ} (e : p.1 = k) : dGet (p :: r) k = some p.2 := by simp [dGet, List.find?_cons, e]
theorem dGet_neg {p : κ × β} {r : List (κ × β)} {k : κ} (e : ¬ p.1 = k) : dGet (p :: r) k = dGet r k := by simp [dGet, List.find?_cons, e]
theorem RD.get {kvs : List (K' × V)} {xs : List (κ × β)} (h : RD F kvs xs) (k : κ) :
    (dGet xs k = none ∧ valV kvs (DK.kk k) = none) ∨ ∃ y v, dGet xs k = some y ∧ valV kvs (DK.kk k) = some v ∧ R F v y := by
  induction h with
  | nil => exact .inl ⟨rfl, rfl⟩
  | @cons j v y kvs xs h hs ih =>
    by_cases e : j = k
    · exact .inr ⟨y, v, dGet_pos e, valV_pos (by rw [e]), h⟩
    · rw [dGet_neg (p := (j, y)) e, valV_neg (fun z => e (DK.inj j k z))]
      exact ih
theorem RD.some {kvs : List (K' × V)} {xs : List (κ × β)} (h : RD F kvs xs) {k : κ} {y : β} (e : dGet xs k = some y) : ∃ v, valV kvs (DK.kk k) = some v ∧ R F v y := by
  rcases h.get k with ⟨a, _⟩ | ⟨y', v, a, b, c⟩
  · rw [e] at a; cases a
  · rw [e] at a; cases a; exact ⟨v, b, c⟩
theorem RD.is {kvs : List (K' × V)} {xs : List (κ × β)} (h : RD F kvs xs) (k : κ) : (valV kvs (DK.kk k)).isSome = dHas xs k := by
  unfold dHas
  rcases h.get k with ⟨a, b⟩ | ⟨y', v, a, b, c⟩
  · rw [a, b]; rfl
  · rw [a, b]; rfl
theorem RD.map {kvs : List (K' × V)} {xs : List (κ × β)} (h : RD F kvs xs) (k : κ) {v : V} {y : β} (hv : R F v y) :
    RD F (kvs.map fun kv => if kv.1 = DK.kk k then (kv.1, v) else kv) (xs.map fun p => if p.1 = k then (p.1, y) else p) := by
  induction h with
  | nil => exact .nil
  | @cons j u z kvs xs h hs ih =>
    rw [List.map_cons, List.map_cons]
    by_cases e : j = k
    · rw [if_pos e, if_pos (show (DK.kk j, u).1 = DK.kk k by rw [e])]
      exact .cons hv ih
    · rw [if_neg e, if_neg (show ¬ (DK.kk j, u).1 = DK.kk k from fun z => e (DK.inj j k z))]
      exact .cons h ih
theorem RD.snoc {kvs : List (K' × V)} {xs : List (κ × β)} (h : RD F kvs xs) (k : κ) {v : V} {y : β} (hv : R F v y) : RD F (kvs ++ [(DK.kk k, v)]) (xs ++ [(k, y)]) := by
  induction h with
  | nil => exact .cons hv .nil
  | cons h _ ih => exact .cons h ih
theorem RD.any {kvs : List (K' × V)} {xs : List (κ × β)} (h : RD F kvs xs) (k : κ) : (kvs.any fun kv => decide (kv.1 = DK.kk k)) = (xs.any fun p => decide (p.1 = k)) := by
  induction h with
  | nil => rfl
  | @cons j u z kvs xs h hs ih => rw [List.any_cons, List.any_cons, ih, kk_dec]
theorem RD.put {kvs : List (K' × V)} {xs : List (κ × β)} (h : RD F kvs xs) (k : κ) {v : V} {y : β} (hv : R F v y) : RD F (putK kvs (DK.kk k) v) (dPut xs k y) := by
  unfold putK dPut
  rw [h.any k]
  by_cases e : (xs.any fun p => decide (p.1 = k)) = true
  · rw [if_pos e, if_pos e]; exact h.map k hv
  · rw [if_neg e, if_neg e]; exact h.snoc k hv
def putD (xs : List (κ × β)) (k : κ) (y : β) : M (List (κ × β)) := if xs.length < 16777216 then .ok (dPut xs k y) else bad
theorem wp_putD {a : Type} {Q : a → Prop} {E : String → Prop} {xs : List (κ × β)} {j : κ} {y : β} {k : List (κ × β) → M a} (h : wp (putD xs j y >>= k) Q E) : xs.length < sizeLine ∧ wp (k (dPut xs j y)) Q E := by
  unfold putD at h
  by_cases hl : xs.length < 16777216
  · rw [if_pos hl] at h
    exact ⟨lt_line hl, h⟩
  · rw [if_neg hl] at h
    exact h.elim
end
/-- a dict that is read alone -/
class DO (K' : Type) where
  ho : List (K' × V) → HO
instance : DO Key := ⟨.dK⟩
instance : DO (List Key) := ⟨.dT⟩
section
variable {κ K' β : Type} [DK κ K'] [Py β] [DO K'] {F F' H : Hp} {v : V} {a b : Addr}
def RDv (F : Hp) (v : V) (xs : List (κ × β)) : Prop := ∃ (a : Addr) (kvs : List (K' × V)), v = .ref a ∧ Rd F a (DO.ho kvs) ∧ RD F kvs xs
theorem rd_mono {u : HO} (s : Same F F') (h : Rd F a u) : Rd F' a u := h.elim (fun e => .inl (s _ _ e)) fun ⟨o, e⟩ => .inr ⟨o, s _ _ e⟩
theorem RDv.mono {xs : List (κ × β)} (h : RDv F v xs) (s : Same F F') : RDv F' v xs := by
  obtain ⟨a, kvs, e, h1, h2⟩ := h
  exact ⟨a, kvs, e, rd_mono s h1, h2.mono s⟩
theorem RDv.mk {xs : List (κ × β)} {kvs : List (K' × V)} (h : Rd F a (DO.ho kvs)) (hr : RD F kvs xs) : RDv F (.ref a) xs := ⟨a, kvs, rfl, h, hr⟩
end
section
variable {β : Type} [Py β] {F H : Hp} {a b : Addr}
theorem dgt {kvs : List (List Key × V)} {k : List Key} (e : Rd H a (.dT kvs)) (eb : H b = some (.tup (k.map kV))) : DGet H a (.ref b) (valV kvs k) := .inr ⟨kvs, k, b, e, rfl, eb, rfl⟩
theorem dgk {kvs : List (Key × V)} {k : Key} (e : Rd H a (.dK kvs)) : DGet H a (kV k) (valV kvs k) := .inl ⟨kvs, k, e, rfl, rfl⟩
theorem dget_T {kvs : List (List Key × V)} {i j : Int} {v : V} (e : Rd H a (.dT kvs)) (eb : H b = some (.tup [.int i, .int j])) (hv : valV kvs (DK.kk (i, j)) = some v) : DGet H a (.ref b) (some v) := by
  rw [← hv]
  exact dgt (k := [.inl i, .inl j]) e eb
theorem dget_I {kvs : List (Key × V)} {i : Int} {v : V} (e : Rd H a (.dK kvs)) (hv : valV kvs (DK.kk i) = some v) : DGet H a (.int i) (some v) := by
  rw [← hv]
  exact dgk (k := .inl i) e
theorem dget_S {kvs : List (Key × V)} {i : Str} {v : V} (e : Rd H a (.dK kvs)) (hv : valV kvs (DK.kk i) = some v) : DGet H a (.str i) (some v) := by
  rw [← hv]
  exact dgk (k := .inr i) e
theorem din_T {kvs : List (List Key × V)} {i j : Int} {xs : List ((Int × Int) × β)} (e : Rd H a (.dT kvs)) (eb : H b = some (.tup [.int i, .int j])) (hr : RD F kvs xs) : ∃ o, DGet H a (.ref b) o ∧ o.isSome = dHas xs (i, j) :=
  ⟨_, dgt (k := [.inl i, .inl j]) e eb, hr.is (i, j)⟩
theorem din_I {kvs : List (Key × V)} {i : Int} {xs : List (Int × β)} (e : Rd H a (.dK kvs)) (hr : RD F kvs xs) : ∃ o, DGet H a (.int i) o ∧ o.isSome = dHas xs i :=
  ⟨_, dgk (k := .inl i) e, hr.is i⟩
theorem din_S {kvs : List (Key × V)} {i : Str} {xs : List (Str × β)} (e : Rd H a (.dK kvs)) (hr : RD F kvs xs) : ∃ o, DGet H a (.str i) o ∧ o.isSome = dHas xs i :=
  ⟨_, dgk (k := .inr i) e, hr.is i⟩
theorem dput_T {kvs : List (List Key × V)} {i j : Int} {v : V} (e : H a = some (.dT kvs)) (eb : H b = some (.tup [.int i, .int j])) (hl : kvs.length < sizeLine) : DPut H a (.ref b) v (upd H a (.dT (putK kvs (DK.kk (i, j)) v))) := DPut.t (k := [.inl i, .inl j]) e eb hl
theorem dput_I {kvs : List (Key × V)} {i : Int} {v : V} (e : H a = some (.dK kvs)) (hl : kvs.length < sizeLine) : DPut H a (.int i) v (upd H a (.dK (putK kvs (DK.kk i) v))) := DPut.k (k := .inl i) e hl
theorem dput_S {kvs : List (Key × V)} {i : Str} {v : V} (e : H a = some (.dK kvs)) (hl : kvs.length < sizeLine) : DPut H a (.str i) v (upd H a (.dK (putK kvs (DK.kk i) v))) := DPut.k (k := .inr i) e hl
end
/-! sorted(d), the keys pairs of whole numbers -/
theorem keys_tups {H : Hp} {kvs : List (List Key × V)} {bs : List Addr} (h : IsKeys H kvs bs) : ∀ b ∈ bs, ∃ xs, H b = some (.tup xs) := by
  unfold IsKeys at h
  induction h with
  | nil => intro b hb; simp at hb
  | cons h t ih =>
    intro c hc
    rcases List.mem_cons.mp hc with rfl | hc
    · exact ⟨_, h⟩
    · exact ih c hc
theorem keys_rl {H : Hp} {kvs : List (List Key × V)} {bs : List Addr} (h : IsKeys H kvs bs) : ∀ {ks : List (Int × Int)}, kvs.map (·.1) = ks.map DK.kk → RL H (bs.map V.ref) ks := by
  unfold IsKeys at h
  induction h with
  | nil =>
    intro ks e
    cases ks with
    | nil => exact RL.nil
    | cons k ks => simp at e
  | cons h t ih =>
    intro ks e
    cases ks with
    | nil => simp at e
    | cons k ks =>
      rw [List.map_cons, List.map_cons] at e
      injection e with e1 e2
      rw [e1] at h
      exact RL.cons (R.t2 h R.int R.int) (ih e2)
theorem keys_in {H F : Hp} {kvs : List (List Key × V)} {bs : List Addr} {ks : List (Int × Int)} (h : IsKeys H kvs bs) (hf : ∀ b ∈ bs, F b = H b) (e : kvs.map (·.1) = ks.map DK.kk) : RL F (bs.map V.ref) ks := by
  refine keys_rl ?_ e
  unfold IsKeys at h ⊢
  clear e
  induction h with
  | nil => exact .nil
  | @cons x b xs bs h t ih =>
    refine .cons ?_ (ih fun c hc => hf c (List.mem_cons_of_mem _ hc))
    rw [hf b List.mem_cons_self]
    exact h
section
variable {X : Cx}
theorem cr_sortedDT (hcalm : X.calm = true) (hu : X.A.units + 128 < cLine) : CallR X (.builtin "sorted") (fun xs H Q => ∃ (d : Addr) (kvs : List (List Key × V)) (ks : List (Int × Int)), xs = [.ref d] ∧ Rd H d (.dT kvs) ∧ kvs.map (·.1) = ks.map DK.kk ∧
    ∀ (bs : List Addr) (p : Addr), IsKeys H kvs bs → H p = none → Q (.ref p) (upd H p (.lst (sortV (bs.map V.ref) ks)))) := by
  haveI : KF X.K := ⟨⟩
  intro pins s σ H xs us Q I r q
  obtain ⟨d, kvs, ks', ex, hd, hks, q⟩ := q
  subst ex
  obtain ⟨u, eu, rx⟩ := vals1 r
  subst eu
  cases rx
  obtain ⟨z, hs, ks, pr, o, es, ep, ho, hx, hdt, he, hn⟩ := (show ObjOk X.prog X.w H s.heap d (.dT kvs) from hd.ok I.hok)
  have l1 : es.size = ks.length := size_of_entries he
  have l2 : kvs.length = ks.length := Paired.length pr
  refine Calls.call_function_entry PyProof.Rows.kind_sorted PyProof.Rows.plain_sorted PyProof.Rows.entry_sorted (PyProof.Rows.args_sorted1 _) ?_
  unfold Builtin.«sorted»
  refine wpAny_bind (m := checkCount "sorted" 1 1 _) (wpAny_pure ?_)
  refine wpAny_bind (PySem.W.kdu_collect (A := X.A.in1) (kdl_raw hs hx hdt) (I.ok.hd hcalm) ho (by omega) fun h' tk acc kp it => ?_)
  have ea : acc.toList = ks.map fun x => Value.ref x.2.1 := by
    have hl : acc.toList.length = ks.length := by rw [Array.length_toList, it.1]; exact l1
    apply List.ext_getElem?
    intro j
    rw [List.getElem?_map]
    cases hj : acc.toList[j]? with
    | none =>
      have h1 := List.getElem?_eq_none_iff.mp hj
      rw [List.getElem?_eq_none (by omega)]
      all_goals rfl
    | some v =>
      obtain ⟨en, hen, hv⟩ := it.2 j v (by rw [← Array.getElem?_toList]; exact hj)
      have qe := entry_at he j
      rw [hen] at qe
      cases hb : ks[j]? with
      | none =>
        rw [hb] at qe
        exact nomatch (show some en = none from qe)
      | some b =>
        rw [hb] at qe
        have e2 : en = entryOfKey (tupleKind (mixKind X.prog X.w)) b := Option.some.inj qe
        rw [hv, e2]
        all_goals rfl
  have eb : acc.toList = (ks.map fun (x : List Key × Addr × Value) => x.2.1).map Value.ref := by rw [ea, List.map_map]; all_goals rfl
  have rv : Vals ((ks.map fun (x : List Key × Addr × Value) => x.2.1).map V.ref) acc.toList := by rw [eb]; exact vals_refs _
  have hik : IsKeys H kvs (ks.map fun (x : List Key × Addr × Value) => x.2.1) := isKeys_of pr
  have hrl := keys_rl hik hks
  have hlen : ((ks.map fun (x : List Key × Addr × Value) => x.2.1).map V.ref).length = ks'.length := hrl.len
  have hal : acc.toList.length = ks.length := by rw [ea, List.length_map]
  have I1 : Inv X pins σ H { s with heap := h', toks := tk } := I.kept kp
  have hE := each_pairs hrl rv
  have hR : EachIs (fun u (p : V × (Int × Int)) => ∃ as, PySem.Reads h' u (Datum.toD p.2) as) acc.toList (((ks.map fun (x : List Key × Addr × Value) => x.2.1).map V.ref).zip ks') := each_imp (fun u p hp => hp.2.holds I1 hp.1) hE
  have hoL : (h'.push (seqObj "list" acc.toList.toArray 0)).get? h'.objs.size = some (seqObj "list" acc.toList.toArray 0) := Heap.get?_push_size _ rfl
  have hz : acc.toList.length ≤ sizeLine := by rw [hal]; omega
  refine wpAny_bind (wpAny_newList ?_ hz)
  show wpAny _ _ _ _ _ { s with heap := h'.push (seqObj "list" acc.toList.toArray 0), toks := tk }
  have er' : EachIs (fun v (p : V × (Int × Int)) => ∃ as, PySem.Reads (PySem.W.sortingHeap (h'.push (seqObj "list" acc.toList.toArray 0)) h'.objs.size acc.toList) v (Datum.toD p.2) as) acc.toList (((ks.map fun (x : List Key × Addr × Value) => x.2.1).map V.ref).zip ks') :=
    hR.mono fun _ _ ⟨as, r⟩ => ⟨as, PyProof.Rows.Reads.keeps (fun b o e => PySem.W.sortingHeap_old (Nat.ne_of_lt (Heap.lt_size e)) (Heap.get?_push_of_some _ e)) r⟩
  have hal2 : PySem.W.AllAlike ((((ks.map fun (x : List Key × Addr × Value) => x.2.1).map V.ref).zip ks').map fun p => Datum.toD p.2) := PySem.W.AllAlike.of fun p q => DatumOrd.alike p.2 q.2
  refine wpAny_bind (wpAny_holding (wpAny_call_entry PyProof.Rows.slot_list_sort ⟨_, hoL, rfl⟩ PyProof.Rows.entry_list_sort
    (PySem.W.list_sort_vals (κ := PySem.W.dataKind (PySem.W.sortingHeap (h'.push (seqObj "list" acc.toList.toArray 0)) h'.objs.size acc.toList) ((((ks.map fun (x : List Key × Addr × Value) => x.2.1).map V.ref).zip ks').map fun p => Datum.toD p.2)) (s := { s with heap := h'.push (seqObj "list" acc.toList.toArray 0), toks := tk }) hoL
      (PySem.W.SortsAt.data (s := { s with heap := PySem.W.sortingHeap (h'.push (seqObj "list" acc.toList.toArray 0)) h'.objs.size acc.toList, toks := tk }) (PySem.W.each_map (R := fun v d => ∃ as, PySem.Reads (PySem.W.sortingHeap (h'.push (seqObj "list" acc.toList.toArray 0)) h'.objs.size acc.toList) v d as) (fun (p : V × (Int × Int)) => Datum.toD p.2) er') hal2 ?_ ?_) hz ⟨_, rfl, ?_⟩)
    (PyProof.Rows.args_list_sort _)))
  · exact PySem.W.Sortable.tuples fun p => ⟨_, _, rfl⟩
  · intro dd hdd
    obtain ⟨p, _, rfl⟩ := List.mem_map.mp hdd
    have hdp : Datum.depth (Int × Int) ≤ 100 := by decide
    have := Datum.depth_le p.2
    have hA : X.A.in1.in1.units ≤ X.A.units + 2 := by simp [Around.in1]
    omega
  · have he2 := PySem.W.sortVals_data (R := fun (u : Value) (p : V × (Int × Int)) => RelV p.1 u ∧ R H p.1 p.2) (enc := fun p => Datum.toD p.2) false hE er' hal2
    rw [dataLe_T (fun p : V × (Int × Int) => p.2)] at he2
    obtain ⟨q1, q2⟩ := pairs_vals he2
    obtain ⟨e', he'⟩ := PyProof.Rows.sortedHeap_at (vs := acc.toList) (out := (PySem.W.sortVals (PySem.W.dataKind (PySem.W.sortingHeap (h'.push (seqObj "list" acc.toList.toArray 0)) h'.objs.size acc.toList) ((((ks.map fun (x : List Key × Addr × Value) => x.2.1).map V.ref).zip ks').map fun p => Datum.toD p.2)) false acc.toList acc.toList).toArray) hoL
    refine wpAny_pure ⟨_, rfl, .ref h'.objs.size, upd H h'.objs.size (.lst (sortV ((ks.map fun (x : List Key × Addr × Value) => x.2.1).map V.ref) ks')), I1.laid (t' := tk) (fun b u e => ?_) (Nat.le_refl _)
      (show ObjOk X.prog X.w _ _ _ (.lst _) from ⟨?_, _, e', q1, he'⟩), rfl, q _ _ hik (I1.hok.fresh (Nat.le_refl _))⟩
    · have hb : b < h'.objs.size := Heap.lt_size e
      rw [PyProof.Rows.sortedHeap_old (Nat.ne_of_lt hb) (by rw [size_push']; exact Nat.lt_succ_of_lt hb)]
      exact Heap.get?_push_of_some _ e
    · unfold sortV
      rw [List.length_map, List.length_mergeSort, List.length_zip, hlen, Nat.min_self, ← hlen, List.length_map, List.length_map]
      omega
end
end PG

set_option Elab.async false
set_option linter.all false
set_option maxRecDepth 100000
set_option maxHeartbeats 4000000
namespace PG
open PySem PySem.Spec PyProof.Rows L2
open PySem.W (T3 T4 Datum DatumOrd Holds HoldAll EachIs)
variable {K0 : PySem.W.Frag} [KF K0]

/-! ### a list of two things of two kinds -/
structure HL2 (a b : Type) where
  a : a
  b : b
  deriving DecidableEq
theorem HL2.same {a b : Type} : ∀ {p q : HL2 a b}, p.a = q.a → p.b = q.b → p = q
  | ⟨_, _⟩, ⟨_, _⟩, rfl, rfl => rfl
section
variable {α β : Type} [DecidableEq α] [Datum α] [DecidableEq β] [Datum β]
instance : Datum (HL2 α β) where
  toD p := .list [Datum.toD p.a, Datum.toD p.b]
  plain p := by simp only [PyData.plain, PyData.plainAll, Datum.plain, Bool.and_self]
  eqv p q := by
    simp only [PyData.eqv, PyData.eqvAll]
    rw [Datum.eqv, Datum.eqv, Bool.and_true, ← Bool.decide_and]
    exact decide_eq_decide.mpr ⟨fun e => HL2.same e.1 e.2, fun e => by rw [e]; exact ⟨rfl, rfl⟩⟩
  depth := max (Datum.depth α) (Datum.depth β) + 1
  depth_le p := by
    simp only [PyData.depth, PyData.depthAll]
    have h0 := Datum.depth_le p.a
    have h1 := Datum.depth_le p.b
    omega
end
instance {a b : Type} [Py a] [Py b] : Py (HL2 a b) := ⟨fun p => .list [Py.toD p.a, Py.toD p.b]⟩
section
variable {a b : Type} [Py a] [DecidableEq a] [Datum a] [IsD a] [Py b] [DecidableEq b] [Datum b] [IsD b]
instance : IsD (HL2 a b) := ⟨fun p => by show PyData.list [_, _] = PyData.list [_, _]; rw [IsD.eq, IsD.eq]⟩
end
theorem R.hl2 {a b : Type} [Py a] [Py b] {H : Hp} {p : Addr} {x : HL2 a b} {v1 v2 : V} (ha : H p = some (.lst [v1, v2])) (h1 : R H v1 x.a) (h2 : R H v2 x.b) : R H (.ref p) x := Rep.lst ha (.cons h1 (.cons h2 .nil))
/-! ### data without lists within -/
class NoL (a : Type) [Py a] : Prop where
  mv : ∀ {K0 : PySem.W.Frag} [KF K0] (F F' : Hp), (∀ b xs, F b = some (.tup xs) → F' b = some (.tup xs)) → ∀ (v : V) (x : a), R F v x → R F' v x
instance : NoL Int := ⟨fun _ _ _ _ _ h => by rw [R.int_ h]; exact R.int⟩
instance : NoL Bool := ⟨fun _ _ _ _ _ h => by rw [R.bl_ h]; exact R.bl⟩
instance : NoL Str := ⟨fun _ _ _ _ _ h => by rw [R.str_ h]; exact R.str⟩
instance {a b : Type} [Py a] [Py b] [NoL a] [NoL b] : NoL (a × b) := ⟨fun _ _ t _ _ h => by
  obtain ⟨p, v1, v2, rfl, hp, h1, h2⟩ := R.t2T_ h
  exact R.t2T (hp.mv t) (NoL.mv _ _ t _ _ h1) (NoL.mv _ _ t _ _ h2)⟩
instance {a b c : Type} [Py a] [Py b] [Py c] [NoL a] [NoL b] [NoL c] : NoL (T3 a b c) := ⟨fun _ _ t _ _ h => by
  obtain ⟨p, v1, v2, v3, rfl, hp, h1, h2, h3⟩ := R.t3T_ h
  exact R.t3T (hp.mv t) (NoL.mv _ _ t _ _ h1) (NoL.mv _ _ t _ _ h2) (NoL.mv _ _ t _ _ h3)⟩
theorem RL.mv {a : Type} [Py a] [NoL a] {F F' : Hp} (t : ∀ b xs, F b = some (.tup xs) → F' b = some (.tup xs)) : ∀ {vs : List V} {xs : List a}, RL F vs xs → RL F' vs xs
  | _, [], h => by rw [RL.nil_ h]; exact RL.nil
  | _, x :: xs, h => by
    obtain ⟨w, ws, rfl, h1, h2⟩ := RL.cons_ h
    exact RL.cons (NoL.mv _ _ t _ _ h1) (RL.mv t h2)
/-! ### cells lent to a call -/
open Classical in
noncomputable def lendF (as : List Addr) (F H : Hp) : Hp := fun b => if b ∈ as then H b else F b
open Classical in
noncomputable def backF (as : List Addr) (F : Hp) : Hp := fun b => if b ∈ as then none else F b
section
variable {Z : Ent} {F F' H H' : Hp} {cs : List (Addr × HO)} {p a q : Addr} {o o' : HO} {as : List Addr}
theorem inA_nil : ∀ b ∈ ([] : List Addr), ∃ o, (b, o) ∈ cs := fun _ h => nomatch h
theorem inA_cons (i : Nat) (e : cs[i]? = some (a, o)) (h : ∀ b ∈ as, ∃ o, (b, o) ∈ cs) : ∀ b ∈ a :: as, ∃ o, (b, o) ∈ cs := fun b hb => by
  rcases List.mem_cons.mp hb with rfl | hb
  · exact ⟨o, List.mem_of_getElem? e⟩
  · exact h b hb
theorem lendF_at (h : a ∈ as) : lendF as F H a = H a := if_pos h
theorem Ow.lendS (O : Ow Z F cs H) (hin : ∀ b ∈ as, ∃ o, (b, o) ∈ cs) : Same F (lendF as F H) := fun b u e => by
  by_cases hb : b ∈ as
  · obtain ⟨o, hc⟩ := hin b hb
    have := O.cf _ hc
    have e' : F b = none := this
    rw [e'] at e; cases e
  · show (if b ∈ as then H b else F b) = _
    rw [if_neg hb]; exact e
theorem Ow.lendP (O : Ow Z F cs H) (hin : ∀ b ∈ as, ∃ o, (b, o) ∈ cs) : Pre (lendF as F H) [] H := by
  refine ⟨fun b u e => ?_, (fun _ h => nomatch h), (fun _ h => nomatch h), List.nodup_nil, fun _ h => nomatch h⟩
  have e : (if b ∈ as then H b else F b) = some u := e
  by_cases hb : b ∈ as
  · rw [if_pos hb] at e; exact e
  · rw [if_neg hb] at e; exact O.s b u e
theorem Ow.unlend (O : Ow Z F cs H) (hin : ∀ b ∈ as, ∃ o, (b, o) ∈ cs) (g : Gr [] (lendF as F H) H F' H') :
    Ow Z (backF as F') cs H' ∧ Same F (backF as F') ∧ (∀ b xs, F' b = some (.tup xs) → backF as F' b = some (.tup xs)) ∧ ∀ b, F' b = none → backF as F' b = none := by
  have inF : ∀ b, b ∉ as → ∀ u, F b = some u → F' b = some u := fun b hb u e => g.f b u (by
    show (if b ∈ as then H b else F b) = _
    rw [if_neg hb]; exact e)
  have nF : ∀ b ∈ as, F b = none := fun b hb => by obtain ⟨o, hc⟩ := hin b hb; exact O.cf _ hc
  have sF : Same F (backF as F') := fun b u e => by
    show (if b ∈ as then none else F' b) = _
    by_cases hb : b ∈ as
    · rw [nF b hb] at e; cases e
    · rw [if_neg hb]; exact inF b hb u e
  refine ⟨⟨⟨O.g.f.trans sF, fun b u e => ?_, fun b u hb e => g.k b u (fun h => nomatch h) (O.g.k b u hb e), fun b e => g.t b (O.g.t b e), fun b e => ?_, fun b xs e => ?_⟩, fun c hc => ?_, fun c hc => g.k _ _ (fun h => nomatch h) (O.ch c hc), O.nd, O.ca, O.nt⟩, sF, fun b xs e => ?_, fun b e => ?_⟩
  · have e : (if b ∈ as then none else F' b) = some u := e
    by_cases hb : b ∈ as
    · rw [if_pos hb] at e; cases e
    · rw [if_neg hb] at e; exact g.s b u e
  · show (if b ∈ as then none else F' b) = _ ∨ _
    by_cases hb : b ∈ as
    · rw [if_pos hb]
      rcases O.g.n b e with h0 | h0
      · rw [nF b hb] at h0; exact .inl h0
      · exact .inr h0
    · rw [if_neg hb]
      rcases O.g.n b e with h0 | h0
      · rcases g.n b (O.g.t b e) with h1 | ⟨xs, hx⟩
        · refine .inl (h1.trans ?_)
          show (if b ∈ as then H b else F b) = _
          rw [if_neg hb]; exact h0
        · rcases O.g.u b xs hx with z | z
          · exact absurd z e
          · exact .inr ⟨xs, z⟩
      · exact .inr h0
  · rcases g.u b xs e with z | z
    · refine .inl ?_
      cases q : Z.H b with
      | none => rfl
      | some u => exact absurd z (O.g.t b (by rw [q]; simp))
    · exact O.g.u b xs z
  · show (if c.1 ∈ as then none else F' c.1) = none
    by_cases hb : c.1 ∈ as
    · rw [if_pos hb]
    · rw [if_neg hb]
      have hl : lendF as F H c.1 = none := by
        show (if c.1 ∈ as then H c.1 else F c.1) = _
        rw [if_neg hb]; exact O.cf c hc
      exact g.none (O.ch c hc) (O.nt c hc) hl
  · show (if b ∈ as then none else F' b) = _
    by_cases hb : b ∈ as
    · obtain ⟨o, hc⟩ := hin b hb
      have h1 : lendF as F H b = some o := by
        show (if b ∈ as then H b else F b) = _
        rw [if_pos hb]; exact O.ch _ hc
      have h2 := g.f b o h1
      rw [e] at h2
      have h3 := O.nt _ hc
      have h3 : noTup o = true := h3
      rw [← Option.some.inj h2] at h3
      cases h3
    · rw [if_neg hb]; exact e
  · show (if b ∈ as then none else F' b) = _
    by_cases hb : b ∈ as
    · rw [if_pos hb]
    · rw [if_neg hb]; exact e
theorem Ow.fresh (O : Ow Z F cs H) (h : H p = none) : p ∉ cs.map (·.1) := fun hm => by
  obtain ⟨c, hc, e⟩ := List.mem_map.mp hm
  have z := O.ch c hc
  rw [e, h] at z
  cases z
theorem Ow.add' (O : Ow Z F cs H) (hm : p ∉ cs.map (·.1)) (hz : Z.H p = none) (hf : F p = none) (h : H p = some o) (ht : noTup o = true := by rfl) : Ow Z F ((p, o) :: cs) H where
  g := O.g
  cf := fun c hc => by
    rcases List.mem_cons.mp hc with rfl | hc
    · exact hf
    · exact O.cf c hc
  ch := fun c hc => by
    rcases List.mem_cons.mp hc with rfl | hc
    · exact h
    · exact O.ch c hc
  nd := by
    rw [List.map_cons, List.nodup_cons]
    exact ⟨hm, O.nd⟩
  ca := fun c hc => by
    rcases List.mem_cons.mp hc with rfl | hc
    · exact .inr hz
    · exact O.ca c hc
  nt := fun c hc => by
    rcases List.mem_cons.mp hc with rfl | hc
    · exact ht
    · exact O.nt c hc
theorem Ow.ne (O : Ow Z F cs H) (i j : Nat) (hij : i ≠ j) (ei : cs[i]? = some (a, o)) (ej : cs[j]? = some (q, o')) : a ≠ q := fun e => by
  subst e
  have h1 : (cs.map (·.1))[i]? = some a := by rw [List.getElem?_map, ei]; rfl
  have h2 : (cs.map (·.1))[j]? = some a := by rw [List.getElem?_map, ej]; rfl
  exact hij (nd_ix O.nd h1 h2)
end
theorem nmem2 {p q : Addr} {l : List Addr} (h : p ≠ q) (h2 : p ∉ l) : p ∉ q :: l := fun m => by
  rcases List.mem_cons.mp m with e | m
  · exact h e
  · exact h2 m
/-! ### while -/
inductive Ws (s r : Type) where
  | go (x : s)
  | stop (x : s)
  | rt (z : r)
def whL {s r : Type} (b : s → M (Ws s r)) : Nat → s → M (Fl s r)
  | 0, _ => bad
  | n + 1, x => b x >>= fun
    | .go x' => whL b n x'
    | .stop x' => .ok (.nx x')
    | .rt z => .ok (.rt z)
theorem whL_L {s r a : Type} {Q : a → Prop} {E : String → Prop} {b : s → M (Ws s r)} {n : Nat} {x : s} {k : Fl s r → M a} (h : wp (whL b n x >>= k) Q E) :
    ∃ (L : Nat → s → Prop) (X : s → Prop), L n x ∧ (∀ m x, L m x → wp (b x) (fun w => match w with
      | .go x' => ∃ m', m' < m ∧ L m' x'
      | .stop x' => X x'
      | .rt z => wp (k (.rt z)) Q E) E) ∧ ∀ x, X x → wp (k (.nx x)) Q E := by
  refine ⟨fun n x => wp (whL b n x >>= k) Q E, fun x => wp (k (.nx x)) Q E, h, fun m x hx => ?_, fun x hx => hx⟩
  cases m with
  | zero => exact hx.elim
  | succ m =>
    have hx : wp ((b x >>= fun
      | .go x' => whL b m x'
      | .stop x' => .ok (.nx x')
      | .rt z => .ok (.rt z)) >>= k) Q E := hx
    rw [wp_bind, wp_bind] at hx
    cases e : b x with
    | error e2 => rw [e] at hx; cases e2 <;> exact hx
    | ok w =>
      rw [e] at hx
      cases w with
      | go x' => exact ⟨m, Nat.lt_succ_self m, wp_bind.mpr hx⟩
      | stop x' => exact hx
      | rt z => exact hx
theorem while_P {c : TT} {tb : TS} {D : Ends} {σ : L2.St} {H : Hp} (W : Nat → L2.St → Hp → Prop) (X : L2.St → Hp → Prop) (n : Nat) (h0 : W n σ H) (exit : ∀ σ H, X σ H → D.nx σ H)
    (turn : (∀ σ H, X σ H → D.nx σ H) → ∀ m σ H, W m σ H → c σ H fun b H1 => if b = true then ∃ N : L2.St → Hp → Prop, (∀ σ' H', N σ' H' → ∃ m', m' < m ∧ W m' σ' H') ∧ tb { D with nx := N, ct := N, bk := D.nx } σ H1 else D.nx σ H1) : tWhile c tb D σ H :=
  ⟨W, ⟨n, h0⟩, turn exit⟩
/-! ### a < b < c < d -/
section
variable {X : Cx} {a b c d : Expr} {ta tb tc td : TE} {pos : Pos}
def tChain3 (r r' r'' : R2) (ta tb tc td : TE) : TE := fun σ H Q => ta σ H fun x H1 => tb σ H1 fun y H2 => r x y H2 fun z H3 => ∃ k, z = .bl k ∧
  (if k = true then tc σ H3 fun w' H4 => r' y w' H4 fun z' H5 => ∃ k', z' = .bl k' ∧ (if k' = true then td σ H5 fun u' H6 => r'' w' u' H6 Q else Q (.bl false) H5) else Q (.bl false) H3)
theorem pt_chain3 {op op' op'' : CmpOp} {r r' r'' : R2} (ho : OpR X (compareOp op) r) (ho' : OpR X (compareOp op') r') (ho'' : OpR X (compareOp op'') r'') (ha : PE X a ta) (hb : PE X b tb) (hc : PE X c tc) (hd : PE X d td)
    (hm : lastMarks [op, op', op''] [b, c, d] = false := by with_unfolding_all rfl) : PT X (.Compare a [op, op', op''] [b, c, d] pos) (tTest (tChain3 r r' r'' ta tb tc td)) := by
  refine ⟨fun pins s σ H Q I h => ?_⟩
  refine isTrue_chain (thn (ha.run pins s σ H _ I h) fun v s1 ⟨x, H1, I1, r1, q1⟩ => test_link (thn (hb.run pins s1 σ H1 _ I1 q1) fun u s2 ⟨y, H2, I2, r2, q2⟩ =>
    thn (ho pins s2 σ H2 x y v u _ I2 r1 r2 q2) fun d1 s3 ⟨z, H3, I3, r3, k, e, q3⟩ => ?_)) hm
  subst e
  cases r3
  refine wpAny_truthy_bool ?_
  cases k with
  | false =>
    obtain ⟨k', e', q'⟩ := q3
    cases e'
    exact ite_ff ⟨H3, I3, q'⟩
  | true =>
    refine ite_tt (test_link (thn (hc.run pins s3 σ H3 _ I3 q3) fun w' s4 ⟨z', H4, I4, r4, q4⟩ => thn (ho' pins s4 σ H4 y z' u w' _ I4 r2 r4 q4) fun d2 s5 ⟨z2, H5, I5, r5, k2, e2, q5⟩ => ?_))
    subst e2
    cases r5
    refine wpAny_truthy_bool ?_
    cases k2 with
    | false =>
      obtain ⟨k', e', q'⟩ := q5
      cases e'
      exact ite_ff ⟨H5, I5, q'⟩
    | true =>
      refine ite_tt (test_last (thn (hd.run pins s5 σ H5 _ I5 q5) fun u' s6 ⟨z3, H6, I6, r6, q6⟩ => thn (ho'' pins s6 σ H6 z' z3 w' u' _ I6 r4 r6 q6) fun d3 s7 ⟨z4, H7, I7, r7, k3, e3, q7⟩ => ?_))
      subst e3
      cases r7
      exact wpAny_truthy_bool ⟨H7, I7, q7⟩
end
/-! ### list.index of whole numbers -/
def ixI (xs : List Int) (y : Int) : M Int := if y ∈ xs then .ok ((xs.findIdx (· == y) : Nat) : Int) else bad
theorem wp_ixI {a : Type} {Q : a → Prop} {E : String → Prop} {xs : List Int} {y : Int} {k : Int → M a} (h : wp (ixI xs y >>= k) Q E) : ∃ j, xs.findIdx (· == y) = j ∧ xs[j]? = some y ∧ (∀ (m : Nat) z, m < j → xs[m]? = some z → z ≠ y) ∧ wp (k (j : Int)) Q E := by
  unfold ixI at h
  by_cases hm : y ∈ xs
  · rw [if_pos hm] at h
    have hlt : xs.findIdx (· == y) < xs.length := List.findIdx_lt_length_of_exists ⟨y, hm, by simp⟩
    refine ⟨_, rfl, ?_, fun m z hmj hz e => ?_, h⟩
    · rw [List.getElem?_eq_getElem hlt]
      have := List.findIdx_getElem (w := hlt)
      rw [eq_of_beq this]
    · have := List.not_of_lt_findIdx hmj
      obtain ⟨hl, hz⟩ := List.getElem?_eq_some_iff.mp hz
      rw [hz, e] at this
      simp at this
  · rw [if_neg hm] at h; exact h.elim
theorem all_flat_int : ∀ xs : List Int, (xs.map V.int).all flatV = true
  | [] => rfl
  | x :: xs => by rw [List.map_cons, List.all_cons, all_flat_int xs]; rfl
theorem int_noeq {xs : List Int} {y : Int} {j : Nat} (h : ∀ (m : Nat) z, m < j → xs[m]? = some z → z ≠ y) : ∀ (m : Nat) (z' : V), m < j → (xs.map V.int)[m]? = some z' → eqV z' (.int y) = false := fun m z' hm hz => by
  rw [List.getElem?_map] at hz
  cases e : xs[m]? with
  | none => rw [e] at hz; cases hz
  | some z =>
    rw [e] at hz
    have hz : V.int z = z' := Option.some.inj hz
    subst hz
    have := h m z hm e
    show (z == y) = false
    simpa using this
theorem int_at {xs : List Int} {y : Int} {j : Nat} (h : xs[j]? = some y) : (xs.map V.int)[j]? = some (.int y) := by rw [List.getElem?_map, h]; rfl
theorem int_eq {y : Int} : eqV (.int y) (.int y) = true := by show (y == y) = true; simp
/-! ### dict(list of pairs), the keys whole numbers -/
section
variable {β : Type} [Py β] {F H : Hp}
def mergeD (xs : List (Int × β)) : List (Int × β) := xs.foldl (fun acc p => dPut acc p.1 p.2) []
theorem merge_rd {kvs : List (Key × V)} {xs : List (Int × β)} (hs : RD F kvs xs) : ∀ {acc : List (Key × V)} {ac : List (Int × β)}, RD F acc ac → RD F (mergeK acc kvs) (xs.foldl (fun acc p => dPut acc p.1 p.2) ac) := by
  induction hs with
  | nil => intro acc ac h; exact h
  | @cons k v y kvs xs hv _ ih =>
    intro acc ac h
    exact ih (h.put k hv)
theorem pairs_of_rl {K : PySem.W.Frag} (s : Same F H) : ∀ {vs : List V} {xs : List (Int × β)}, RL F vs xs → ∃ (ps : List Addr) (kvs : List (Key × V)), vs = ps.map V.ref ∧ Paired (fun p kv => SqT K H p [kV kv.1, kv.2]) ps kvs ∧ RD F kvs xs
  | _, [], h => ⟨[], [], RL.nil_ h, .nil, .nil⟩
  | _, x :: xs, h => by
    obtain ⟨w, ws, rfl, h1, h2⟩ := RL.cons_ h
    obtain ⟨ps, kvs, e, hp, hr⟩ := pairs_of_rl (K := K) s h2
    obtain ⟨p, v1, v2, rfl, hp1, h3, h4⟩ := R.t2_ h1
    rw [R.int_ h3] at hp1
    exact ⟨p :: ps, (.inl x.1, v2) :: kvs, by rw [e]; rfl, .cons (SqT.of (s _ _ hp1)) hp, .cons (k := x.1) h4 hr⟩
end
/-! ### the same rules, the fragment told outright (within a comprehension) -/
section
variable {X : Cx} {K : PySem.W.Frag}
theorem ixTupK (h : X.K = K) : IxR X (rIxT K) := by rw [← h]; exact ix_tup
theorem ixListK (h : X.K = K) : IxR X (rIxL K) := by rw [← h]; exact ix_list
theorem listOfK (h : X.K = K) : CallR X (.type "list") (fun xs H Q => ∃ p ys, xs = [.ref p] ∧ (SqL K H p ys ∨ SqT K H p ys) ∧ ∀ l, H l = none → Q (.ref l) (upd H l (.lst ys))) := by rw [← h]; exact call_list_of
theorem isiK (h : X.K = K) : CallR X (.builtin "isinstance") (rIsi K) := by rw [← h]; exact call_isi
theorem slListK (h : X.K = K) : SlR X (rSlL K) := by rw [← h]; exact sl_list
theorem indexK (h : X.K = K) : MtR X "list.index" (rIndex K) := by rw [← h]; exact mt_index
end
/-! ### enumerate in a comprehension -/
def enumL {b : Type} (xs : List b) : List (Int × b) := xs.zipIdx.map fun p => ((p.2 : Int), p.1)
theorem enumL_get {b : Type} {xs : List b} {i : Nat} {x : b} (h : xs[i]? = some x) : (enumL xs).drop i = ((i : Int), x) :: (enumL xs).drop (i + 1) := by
  apply drop_at
  unfold enumL
  rw [List.getElem?_map, List.getElem?_zipIdx, h]
  simp
theorem enumL_len {b : Type} {xs : List b} : (enumL xs).length = xs.length := by unfold enumL; simp
theorem enumL_end {b : Type} {xs : List b} {vs : List V} (h : vs.length = xs.length) : (enumL xs).drop vs.length = [] := by
  rw [h, ← enumL_len, List.drop_length]
theorem comp_lenE {b : Type} {w vs : List V} {xs : List b} {i : Nat} (la : w.length ≤ i) (hi : i < vs.length) (hl : vs.length = xs.length) (c : (enumL xs).length < 16777216) : w.length < sizeLine := by
  rw [enumL_len] at c
  exact lt_line (by omega)
theorem zip_at {a b : Type} {xs : List a} {ys : List b} {i : Nat} {x : a} {y : b} (h : xs[i]? = some x) (h2 : ys[i]? = some y) : (xs.zip ys).drop i = (x, y) :: (xs.zip ys).drop (i + 1) := by
  apply drop_at
  rw [List.getElem?_zip_eq_some]
  exact ⟨h, h2⟩
theorem zip_end {a b : Type} {xs : List a} {ys : List b} {vs ws : List V} (h : vs.length = xs.length) (h2 : ws.length = ys.length) : (xs.zip ys).drop (min vs.length ws.length) = [] := by
  rw [h, h2, ← List.length_zip, List.drop_length]
theorem comp_lenZ {a b : Type} {w vs ws : List V} {xs : List a} {ys : List b} {i : Nat} (la : w.length ≤ i) (hi : i < min vs.length ws.length) (h : vs.length = xs.length) (h2 : ws.length = ys.length) (c : (xs.zip ys).length < 16777216) : w.length < sizeLine := by
  rw [List.length_zip, ← h, ← h2] at c
  exact lt_line (by omega)
section
variable {X : Cx} {K : PySem.W.Frag}
theorem cr_sumK (hc : X.calm = true) (h : X.K = K) : CallR X (.builtin "sum") (rSum K) := by rw [← h]; exact cr_sum hc
end
end PG

set_option Elab.async false
set_option linter.all false
set_option maxRecDepth 100000
set_option maxHeartbeats 4000000
namespace PG
open PySem PySem.Spec PyProof.Rows L2
open PySem.W (T3 T4 Datum DatumOrd Holds HoldAll EachIs)
variable {K0 : PySem.W.Frag} [KF K0]
/-! ### sums: ("number", n), (word, n), (word,), (word, a, b) -/
inductive Sm where
  | num (w : Str) (n : Int)
  | nam (w : Str)
  | two (w : Str) (a b : Sm)
  deriving DecidableEq
def Sm.d : Sm → PyData
  | .num w n => .tuple [.str w, .int n]
  | .nam w => .tuple [.str w]
  | .two w a b => .tuple [.str w, a.d, b.d]
instance : Py Sm := ⟨Sm.d⟩
def Sm.word : Sm → Str
  | .num w _ => w
  | .nam w => w
  | .two w _ _ => w
def Sm.int? : Sm → Option Int
  | .num _ n => some n
  | _ => none
def Sm.two? : Sm → Option (Sm × Sm)
  | .two _ a b => some (a, b)
  | _ => none
section
variable {F : Hp} {v : V} {p : Addr} {x : Sm}
theorem R.sm_ (h : R F v x) : ∃ p ws, v = .ref p ∧ TupAt F p (V.str x.word :: ws) := by
  cases x with
  | num w n =>
    obtain ⟨p, v1, v2, e, hp, h1, h2⟩ := R.t2T_ (show R (a := Str × Int) F v (w, n) from h)
    rw [R.str_ h1] at hp
    exact ⟨p, [v2], e, hp⟩
  | nam w =>
    have h' : Rep F v (.tuple [.str w]) := h
    cases h' with
    | tup ha hs =>
      cases hs with
      | cons h1 hs =>
        cases hs
        cases h1
        exact ⟨_, _, rfl, ha⟩
  | two w a b =>
    obtain ⟨p, v1, v2, v3, e, hp, h1, h2, h3⟩ := R.t3T_ (show R (a := T3 Str Sm Sm) F v ⟨w, a, b⟩ from h)
    rw [R.str_ h1] at hp
    exact ⟨p, [v2, v3], e, hp⟩
theorem R.sm_int {n : Int} (h : R F v x) (e : x.int? = some n) : ∃ p w, v = .ref p ∧ TupAt F p [V.str w, V.int n] := by
  cases x with
  | num w m =>
    obtain ⟨p, v1, v2, e1, hp, h1, h2⟩ := R.t2T_ (show R (a := Str × Int) F v (w, m) from h)
    rw [R.str_ h1, R.int_ h2] at hp
    have e : some m = some n := e
    cases e
    exact ⟨p, w, e1, hp⟩
  | nam w => cases e
  | two w a b => cases e
theorem R.sm_two {q : Sm × Sm} (h : R F v x) (e : x.two? = some q) : ∃ p w va vb, v = .ref p ∧ TupAt F p [V.str w, va, vb] ∧ R F va q.1 ∧ R F vb q.2 := by
  cases x with
  | num w m => cases e
  | nam w => cases e
  | two w a b =>
    obtain ⟨p, v1, v2, v3, e1, hp, h1, h2, h3⟩ := R.t3T_ (show R (a := T3 Str Sm Sm) F v ⟨w, a, b⟩ from h)
    rw [R.str_ h1] at hp
    have e : some (a, b) = some q := e
    cases e
    exact ⟨p, w, v2, v3, e1, hp, h2, h3⟩
theorem R.of_num {q : Str × Int} (h : R F v q) : R F v (Sm.num q.1 q.2) := h
theorem R.of_two {q : T3 Str Sm Sm} (h : R F v q) : R F v (Sm.two q.a q.b q.c) := h
theorem R.of_nam {w : Str} (h : F p = some (.tup [V.str w])) : R F (.ref p) (Sm.nam w) := Rep.tup (.inl h) (.cons (.str w) .nil)
/-- the module's own tuples -/
theorem R.k_nam {w : Str} (h : KTup K0 p [V.str w]) : R F (.ref p) (Sm.nam w) := Rep.tup (.inr ⟨⟨_, _, rfl⟩, h⟩) (.cons (.str w) .nil)
theorem R.k_num {w : Str} {n : Int} (h : KTup K0 p [V.str w, V.int n]) : R F (.ref p) (Sm.num w n) := Rep.tup (.inr ⟨⟨_, _, rfl⟩, h⟩) (.cons (.str w) (.cons (.int n) .nil))
instance : NoS Sm := ⟨fun x s h => by cases x <;> exact nomatch h⟩
end
/-! ### a whole number or a list of such -/
inductive IL where
  | i (n : Int)
  | l (xs : List Int)
instance : Py IL := ⟨fun
  | .i n => Py.toD n
  | .l xs => Py.toD xs⟩
def IL.i? : IL → Option Int
  | .i n => some n
  | _ => none
def IL.l? : IL → Option (List Int)
  | .l xs => some xs
  | _ => none
section
variable {F : Hp} {v : V}
theorem R.il_i {x : IL} {n : Int} (h : R F v x) (e : x.i? = some n) : R F v n := by
  cases x with
  | i m => have e : some m = some n := e; cases e; exact h
  | l xs => cases e
theorem R.il_l {x : IL} {xs : List Int} (h : R F v x) (e : x.l? = some xs) : R F v xs := by
  cases x with
  | i m => cases e
  | l ys => have e : some ys = some xs := e; cases e; exact h
theorem R.of_i {n : Int} (h : R F v n) : R F v (IL.i n) := h
theorem R.of_l {xs : List Int} (h : R F v xs) : R F v (IL.l xs) := h
end
section
variable {β : Type} [Py β] {F : Hp}
def mergeDS (xs : List (Str × β)) : List (Str × β) := xs.foldl (fun acc p => dPut acc p.1 p.2) []
theorem merge_rdS {kvs : List (Key × V)} {xs : List (Str × β)} (hs : RD F kvs xs) : ∀ {acc : List (Key × V)} {ac : List (Str × β)}, RD F acc ac → RD F (mergeK acc kvs) (xs.foldl (fun acc p => dPut acc p.1 p.2) ac) := by
  induction hs with
  | nil => intro acc ac h; exact h
  | @cons k v y kvs xs hv _ ih =>
    intro acc ac h
    exact ih (h.put k hv)
end
section
variable {X : Cx} {K : PySem.W.Frag} {pos : Pos}
theorem slTupK (h : X.K = K) : SlR X (rSlT K) := by rw [← h]; exact sl_tup
theorem pgLstK (h : X.K = K) {es : List Expr} {k : Nat} {t : TGs} {n : Nat} (hc : X.calm = true) (hp : PGs X es t)
    (hn : (assignEach es X.env).length = n := by rfl) (hst : (assignEach es X.env).findIdx? (·.1) = none := by rfl) : PG X (.Tuple es k pos) (gLst K n t) := by rw [← h]; exact pg_lst hc hp hn hst
end
theorem RL.two {a : Type} [Py a] {F : Hp} {vs : List V} {xs : List a} (h : RL F vs xs) (e : xs.length = 2) : ∃ v1 v2 x1 x2, vs = [v1, v2] ∧ xs = [x1, x2] ∧ R F v1 x1 ∧ R F v2 x2 := by
  match xs, e with
  | [x1, x2], _ =>
    obtain ⟨w, ws, rfl, h1, h2⟩ := RL.cons_ h
    obtain ⟨w2, ws2, rfl, h3, h4⟩ := RL.cons_ h2
    rw [RL.nil_ h4]
    exact ⟨w, w2, x1, x2, rfl, rfl, h1, h3⟩
/-- a list of just two -/
def two2 {a : Type} (xs : List a) : M (a × a) := match xs with
  | [x, y] => .ok (x, y)
  | _ => bad
theorem wp_two2 {a b : Type} {Q : a → Prop} {E : String → Prop} {xs : List b} {k : b × b → M a} (h : wp (two2 xs >>= k) Q E) : ∃ x y, xs = [x, y] ∧ wp (k (x, y)) Q E := by
  match xs, h with
  | [x, y], h => exact ⟨x, y, rfl, h⟩
  | [], h => exact h.elim
  | [_], h => exact h.elim
  | _ :: _ :: _ :: _, h => exact h.elim
theorem sl3 (a b c : V) : ¬ (HT.sIx [a, b, c].length 0 (some (1 : Int)) = 0 ∧ HT.sIx [a, b, c].length [a, b, c].length none = [a, b, c].length) := fun h => absurd h.1 (by show ¬ (HT.sIx 3 0 (some (1 : Int)) = 0); decide)
theorem intB {X : Cx} : CallR X (.type "int") (fun xs H Q => ∃ k, xs = [.bl k] ∧ Q (.int (if k then 1 else 0)) H) := fun pins s σ H xs us Q I r h => call_int1 pins s σ H xs us Q I r (.inr h)
theorem atI0 {a : Type} (x : a) (xs : List a) : L2.atI (x :: xs) (0 : Int) = some x := by
  unfold L2.atI ixN
  rw [if_pos (by omega), if_pos (by rw [List.length_cons]; omega)]
  rfl
end PG

set_option Elab.async false
set_option linter.all false
set_option maxRecDepth 100000
set_option maxHeartbeats 4000000
namespace PG
open PySem PySem.Spec PyProof.Rows L2
open PySem.W (T3 T4 Datum DatumOrd Holds HoldAll EachIs)
variable {K0 : PySem.W.Frag} [KF K0]
/-! ### == of data of any depth, the depth asked outright -/
class DatumX (a : Type) [Py a] [DecidableEq a] : Prop where
  plain : ∀ x : a, (Py.toD x).plain = true
  eqv : ∀ x y : a, PyData.eqv (Py.toD x) (Py.toD y) = decide (x = y)
instance (priority := 50) {a : Type} [Py a] [DecidableEq a] [Datum a] [IsD a] : DatumX a := ⟨fun x => by rw [IsD.eq]; exact Datum.plain x, fun x y => by rw [IsD.eq, IsD.eq]; exact Datum.eqv x y⟩
theorem Sm.pl : ∀ x : Sm, x.d.plain = true
  | .num w n => by simp [Sm.d, PyData.plain, PyData.plainAll]
  | .nam w => by simp [Sm.d, PyData.plain, PyData.plainAll]
  | .two w a b => by simp [Sm.d, PyData.plain, PyData.plainAll, Sm.pl a, Sm.pl b]
theorem ev23 (w w' : Str) (n : PyData) (x y : PyData) : PyData.eqv (.tuple [.str w, n]) (.tuple [.str w', x, y]) = false := by simp [PyData.eqv, PyData.eqvAll]
theorem ev32 (w w' : Str) (n : PyData) (x y : PyData) : PyData.eqv (.tuple [.str w', x, y]) (.tuple [.str w, n]) = false := by simp [PyData.eqv, PyData.eqvAll]
theorem ev13 (w w' : Str) (x y : PyData) : PyData.eqv (.tuple [.str w]) (.tuple [.str w', x, y]) = false := by simp [PyData.eqv, PyData.eqvAll]
theorem ev31 (w w' : Str) (x y : PyData) : PyData.eqv (.tuple [.str w', x, y]) (.tuple [.str w]) = false := by simp [PyData.eqv, PyData.eqvAll]
theorem Sm.ev : ∀ x y : Sm, PyData.eqv x.d y.d = decide (x = y)
  | .num w n, .num w' n' => by
    simp only [Sm.d, PyData.eqv, PyData.eqvAll, Bool.and_true]
    rw [PySem.W.beq_decide, PySem.W.beq_decide, ← Bool.decide_and]
    exact decide_eq_decide.mpr (by rw [Sm.num.injEq])
  | .num w n, .nam w' => by simp [Sm.d, PyData.eqv, PyData.eqvAll]
  | .num w n, .two w' a b => (ev23 w w' (.int n) a.d b.d).trans (by simp)
  | .nam w, .num w' n => by simp [Sm.d, PyData.eqv, PyData.eqvAll]
  | .nam w, .nam w' => by
    simp only [Sm.d, PyData.eqv, PyData.eqvAll, Bool.and_true]
    rw [PySem.W.beq_decide]
    exact decide_eq_decide.mpr (by rw [Sm.nam.injEq])
  | .nam w, .two w' a b => (ev13 w w' a.d b.d).trans (by simp)
  | .two w a b, .num w' n => (ev32 w' w (.int n) a.d b.d).trans (by simp)
  | .two w a b, .nam w' => (ev31 w' w a.d b.d).trans (by simp)
  | .two w a b, .two w' a' b' => by
    simp only [Sm.d, PyData.eqv, PyData.eqvAll, Bool.and_true]
    rw [PySem.W.beq_decide, Sm.ev a a', Sm.ev b b', ← Bool.decide_and, ← Bool.decide_and]
    exact decide_eq_decide.mpr (by rw [Sm.two.injEq])
instance : DatumX Sm := ⟨Sm.pl, Sm.ev⟩
section
variable {a b c d : Type} [Py a] [DecidableEq a] [DatumX a] [Py b] [DecidableEq b] [DatumX b] [Py c] [DecidableEq c] [DatumX c] [Py d] [DecidableEq d] [DatumX d]
theorem plainX : ∀ xs : List a, PyData.plainAll (xs.map Py.toD) = true
  | [] => rfl
  | x :: xs => by
    rw [List.map_cons, PyData.plainAll, DatumX.plain x, plainX xs]
    rfl
theorem eqvX : ∀ xs ys : List a, PyData.eqvAll (xs.map Py.toD) (ys.map Py.toD) = decide (xs = ys)
  | [], [] => by simp only [List.map_nil, PyData.eqvAll, decide_true]
  | [], _ :: _ => by simp [PyData.eqvAll]
  | _ :: _, [] => by simp [PyData.eqvAll]
  | x :: xs, y :: ys => by
    rw [List.map_cons, List.map_cons, PyData.eqvAll, DatumX.eqv x y, eqvX xs ys, ← Bool.decide_and]
    exact decide_eq_decide.mpr (by rw [List.cons.injEq])
instance : DatumX (List a) := ⟨fun xs => by show PyData.plain (.list (xs.map Py.toD)) = true; simp only [PyData.plain]; exact plainX xs, fun xs ys => by show PyData.eqv (.list (xs.map Py.toD)) (.list (ys.map Py.toD)) = _; simp only [PyData.eqv]; exact eqvX xs ys⟩
theorem T4.sm {p q : T4 a b c d} : p = q ↔ p.a = q.a ∧ p.b = q.b ∧ p.c = q.c ∧ p.d = q.d := by
  cases p; cases q
  simp
instance : DatumX (T4 a b c d) := ⟨fun p => by show PyData.plain (.tuple [_, _, _, _]) = true; simp only [PyData.plain, PyData.plainAll, DatumX.plain, Bool.and_self], fun p q => by
  show PyData.eqv (.tuple [_, _, _, _]) (.tuple [_, _, _, _]) = _
  simp only [PyData.eqv, PyData.eqvAll]
  rw [DatumX.eqv, DatumX.eqv, DatumX.eqv, DatumX.eqv, Bool.and_true, ← Bool.decide_and, ← Bool.decide_and, ← Bool.decide_and]
  exact decide_eq_decide.mpr T4.sm.symm⟩
end
def dep {a : Type} [Py a] (x : a) : Nat := (Py.toD x).depth
section
variable {X : Cx} (a : Type) [Py a] [DecidableEq a] [DatumX a]
def rEqX : R2 := fun x y H Q => ∃ p q : a, R H x p ∧ R H y q ∧ min (dep p) (dep q) ≤ 60 ∧ Q (.bl (decide (p = q))) H
def rNeX : R2 := fun x y H Q => ∃ p q : a, R H x p ∧ R H y q ∧ min (dep p) (dep q) ≤ 60 ∧ Q (.bl (decide (p ≠ q))) H
theorem op_eqX (hu : X.A.units + 64 < cLine) (hK : X.K = K0 := by rfl) : OpR X (compareOp .Eq) (rEqX a) := by
  subst hK
  intro pins s σ H x y v u Q I rx ry h
  obtain ⟨p, q, hp, hq, hd, k⟩ := h
  obtain ⟨as, ra⟩ := Dp.reads I _ _ _ (Rep.dp _ _ hp) rx
  obtain ⟨bs, rb⟩ := Dp.reads I _ _ _ (Rep.dp _ _ hq) ry
  have hd' : min (Py.toD p).depth (Py.toD q).depth ≤ 60 := hd
  exact PySem.SeqAt.eq_plain ra rb (DatumX.plain p) (DatumX.plain q) (by omega) (by rw [DatumX.eqv p q]; exact ⟨.bl _, H, I, rfl, k⟩)
theorem op_neX (hu : X.A.units + 64 < cLine) (hK : X.K = K0 := by rfl) : OpR X (compareOp .NotEq) (rNeX a) := by
  subst hK
  intro pins s σ H x y v u Q I rx ry h
  obtain ⟨p, q, hp, hq, hd, k⟩ := h
  obtain ⟨as, ra⟩ := Dp.reads I _ _ _ (Rep.dp _ _ hp) rx
  obtain ⟨bs, rb⟩ := Dp.reads I _ _ _ (Rep.dp _ _ hq) ry
  have hd' : min (Py.toD p).depth (Py.toD q).depth ≤ 60 := hd
  exact PySem.SeqAt.ne_plain ra rb (DatumX.plain p) (DatumX.plain q) (by omega) (by rw [DatumX.eqv p q, ← decide_not]; exact ⟨.bl _, H, I, rfl, k⟩)
end
/-! ### a tuple of things of one kind, of any length -/
structure Tp (a : Type) where
  l : List a
instance {a : Type} [Py a] : Py (Tp a) := ⟨fun t => .tuple (t.l.map Py.toD)⟩
section
variable {a : Type} [Py a] {F : Hp} {v : V}
theorem R.tp_ {x : Tp a} (h : R F v x) : ∃ p vs, v = .ref p ∧ TupAt F p vs ∧ RL F vs x.l := by
  have h' : Rep F v (.tuple (x.l.map Py.toD)) := h
  cases h' with
  | tup ha hs => exact ⟨_, _, rfl, ha, hs⟩
theorem R.tp2 {q : a × a} (h : R F v q) : R F v (Tp.mk [q.1, q.2]) := h
theorem R.tp3 {q : T3 a a a} (h : R F v q) : R F v (Tp.mk [q.a, q.b, q.c]) := h
theorem R.tp1 {w : Str} (h : R F v (Sm.nam w)) : R F v (Tp.mk [w]) := h
end
end PG

set_option Elab.async false
set_option linter.all false
set_option maxRecDepth 100000
set_option maxHeartbeats 4000000
namespace PG
open PySem PySem.Spec PyProof.Rows L2
open PySem.W (T3 T4 Datum DatumOrd Holds HoldAll EachIs)
variable {K0 : PySem.W.Frag} [KF K0]
/-! ### dict(a list of pairs), the keys tuples -/
def mergeT (kvs more : List (List Key × V)) : List (List Key × V) := more.foldl (fun m q => putK m q.1 q.2) kvs
theorem mergeT_kt {H : Hp} {kvs : List (List Key × V)} {xs : List (List Key × Addr × Value)} (r : KT H kvs xs) : ∀ {m : List (List Key × V)} {ms : List (List Key × Addr × Value)}, KT H m ms →
    KT H (mergeT m kvs) (storedAllH ms xs) := by
  induction r with
  | nil => intro m ms h; exact h
  | @cons p q ps qs h t ih =>
    intro m ms hm
    obtain ⟨e, hb, rv⟩ := h
    have := ih (KT.put hm q.1 (b := q.2.1) (by rw [← e]; exact hb) rv)
    unfold mergeT storedAllH at *
    rw [List.foldl_cons, List.foldl_cons, e]
    exact this
def PairT (K : PySem.W.Frag) (H : Hp) (p : Addr × Addr) (q : List Key × V) : Prop := SqT K H p.1 [.ref p.2, q.2] ∧ H p.2 = some (.tup (q.1.map kV))
theorem kt_at {H : Hp} {kvs : List (List Key × V)} {xs : List (List Key × Addr × Value)} (r : KT H kvs xs) : ∀ x ∈ xs, H x.2.1 = some (.tup (x.1.map kV)) := by
  induction r with
  | nil => exact fun x hx => nomatch hx
  | cons h _ ih => intro x hx; rcases List.mem_cons.mp hx with rfl | hx; · rw [← h.1]; exact h.2.1
                   · exact ih x hx
theorem ne_of_none {H : Hp} {b c : Addr} {o : HO} (e : H c = some o) (n : H b = none) : c ≠ b := fun z => by rw [z, n] at e; exact nomatch e
section
variable {X : Cx}
theorem tripT {pins : List (Addr × Obj)} {σ : L2.St} {H : Hp} {s : Shared} (I : Inv X pins σ H s) {ps : List (Addr × Addr)} {kvs : List (List Key × V)} (h : Paired (PairT X.K H) ps kvs) :
    ∃ xs : List (List Key × Addr × Value), KT H kvs xs ∧ xs.length = ps.length ∧ ∀ (j : Nat) q, xs[j]? = some q → ∃ b, ps[j]? = some b ∧ b.2 = q.2.1 ∧ IsTup s.heap b.1 #[.ref q.2.1, q.2.2] := by
  induction h with
  | nil => exact ⟨[], .nil, rfl, fun j q e => by simp at e⟩
  | @cons p kv ps' kvs' h t ih =>
    obtain ⟨xs, r, hl, hx⟩ := ih
    obtain ⟨h1, h2⟩ := h
    obtain ⟨its, rv, ht, _⟩ := I.tuple h1
    obtain ⟨u, y, ei, ru, ry⟩ := vals2 rv
    subst ei
    cases ru
    refine ⟨(kv.1, p.2, y) :: xs, .cons ⟨rfl, h2, ry⟩ r, by simp [hl], fun j q e => ?_⟩
    cases j with
    | zero =>
      have e' : (kv.1, p.2, y) = q := Option.some.inj e
      subst e'
      exact ⟨p, rfl, rfl, ht⟩
    | succ j => exact (hx j q (by simpa using e)).imp fun b z => ⟨by simpa using z.1, z.2⟩
theorem refs_pT : ∀ {ps : List (Addr × Addr)} {us : List Value}, Vals (ps.map fun p => V.ref p.1) us → us = ps.map fun p => Value.ref p.1
  | [], us, r => by rw [List.map_nil] at r; cases r; rfl
  | p :: ps, us, r => by
    rw [List.map_cons] at r
    cases r with
    | cons h t => cases h; rw [List.map_cons, ← refs_pT t]
theorem call_dictT (hcalm : X.calm = true) (hu : X.A.units + 64 < cLine) : CallR X (.type "dict") (fun xs H Q => ∃ (a : Addr) (ps : List (Addr × Addr)) (kvs : List (List Key × V)), xs = [.ref a] ∧
    SqL X.K H a (ps.map fun p => V.ref p.1) ∧ Paired (PairT X.K H) ps kvs ∧ ∀ p, H p = none → Q (.ref p) (upd H p (.dT (mergeT [] kvs)))) := by
  intro pins s σ H zs us Q I r q
  obtain ⟨a, ps, kvs, ez, hq, hp, q⟩ := q
  subst ez
  obtain ⟨u, eu, rx⟩ := vals1 r
  subst eu
  cases rx
  obtain ⟨its, rv, pl, hz⟩ := I.list hq
  have ei := refs_pT rv
  subst ei
  obtain ⟨xs, rel, hl, hx⟩ := tripT I hp
  obtain ⟨o, n, ho, hc, hd, hdat⟩ := pl
  have hz' : ps.length ≤ sizeLine := by simpa using hz
  have hkey : ∀ x ∈ xs, (tupleKind (mixKind X.prog X.w)).is s.heap x.1 x.2.1 := fun x hxm => key_of I.hok (kt_at rel x hxm)
  have hps : ∀ (j : Nat) (k v : Value), (xs.map fun x => (Value.ref x.2.1, x.2.2))[j]? = some (k, v) → ∃ q, xs[j]? = some q ∧ k = .ref q.2.1 ∧ v = q.2.2 := fun j k v e => by
    rw [List.getElem?_map] at e
    cases hq' : xs[j]? with
    | none => rw [hq'] at e; exact nomatch e
    | some q' => rw [hq'] at e; cases e; exact ⟨q', rfl, rfl, rfl⟩
  refine call_dict_pairsH (knd := tupleKind (mixKind X.prog X.w)) (ps := xs)
    (PairArg.list a _ (fun j => ((ps[j]?).map (·.1)).getD 0) (xs.map fun x => (Value.ref x.2.1, x.2.2))) (I.ok.hd hcalm) (show X.A.units + 1 + 1 < cLine by omega)
    ⟨⟨o, n, ho, hc, hd, hdat⟩, ⟨by simp [hl], fun j k v e => ?_⟩⟩ ⟨by simp, fun i k v e => ?_⟩ (fun h' hk x hxm => ?_) (by simpa [hl] using hz') fun h' tk hd' hk => ?_
  · obtain ⟨q', e1, rfl, rfl⟩ := hps j k v e
    obtain ⟨b, e2, _, ht⟩ := hx j q' e1
    have e3 : ((ps[j]?).map (·.1)).getD 0 = b.1 := by rw [e2]; rfl
    show _ ∧ PairAt s.heap (((ps[j]?).map (·.1)).getD 0) _ _
    rw [e3]
    exact ⟨by show _ = some (Value.ref (((ps[j]?).map (·.1)).getD 0)); rw [e3]; simp [e2], .inl ht⟩
  · obtain ⟨q', e1, rfl, rfl⟩ := hps i k v e
    exact ⟨q'.1, q'.2.1, e1, rfl⟩
  · obtain ⟨o', its', n', h1, h2⟩ := hkey x hxm
    exact ⟨o', its', n', hk _ _ (Nat.ne_of_lt (Heap.lt_size h1)) (fun z => nomatch z) h1, h2⟩
  · have hm : (s.heap.objs.size == sysModules) = false := beq_eq_false_iff_ne.mpr (Nat.ne_of_gt I.big)
    have hlen : (mergeT [] kvs).length ≤ sizeLine := by
      have h1 := Paired.length (mergeT_kt rel (m := []) (ms := []) .nil)
      have h2 := storedAllH_length xs ([] : List (List Key × Addr × Value))
      rw [List.length_nil, Nat.zero_add] at h2
      rw [h1]
      exact Nat.le_trans h2 (by rw [hl]; exact hz')
    obtain ⟨q', es, ep, g1, g2, g3, g4, _, g5⟩ := hd'
    refine ⟨.ref s.heap.objs.size, upd H s.heap.objs.size (.dT (mergeT [] kvs)), I.laid (t' := tk) (fun b o' e => hk b o' (fun z => nomatch z) e) (Nat.le_refl _) ⟨hlen, hm, _, (mergeT_kt rel .nil).keeps fun c ys ec => ?_, q', es, ep, g1, g2, g3, g4, g5⟩,
      rfl, q _ (I.hok.fresh (Nat.le_refl _))⟩
    rw [upd_ne (ne_of_none ec (I.hok.fresh (Nat.le_refl _)))]
    exact ec
end
section
variable {β : Type} [Py β] {F H : Hp}
def mergeDT (xs : List ((Int × Int) × β)) : List ((Int × Int) × β) := xs.foldl (fun m p => dPut m p.1 p.2) []
theorem mergeT_rd {kvs : List (List Key × V)} {xs : List ((Int × Int) × β)} (hs : RD F kvs xs) : ∀ {m : List (List Key × V)} {ms : List ((Int × Int) × β)}, RD F m ms → RD F (mergeT m kvs) (xs.foldl (fun m p => dPut m p.1 p.2) ms) := by
  induction hs with
  | nil => intro m ms h; exact h
  | @cons k v y kvs xs hv _ ih =>
    intro m ms h
    exact ih (h.put k hv)
theorem pairsT_of_rl {K : PySem.W.Frag} (s : Same F H) : ∀ {vs : List V} {xs : List ((Int × Int) × β)}, RL F vs xs → ∃ (ps : List (Addr × Addr)) (kvs : List (List Key × V)),
    vs = (ps.map fun p => V.ref p.1) ∧ Paired (PairT K H) ps kvs ∧ RD F kvs xs
  | _, [], h => ⟨[], [], RL.nil_ h, .nil, .nil⟩
  | _, x :: xs, h => by
    obtain ⟨w, ws, rfl, h1, h2⟩ := RL.cons_ h
    obtain ⟨ps, kvs, e, hp, hr⟩ := pairsT_of_rl (K := K) s h2
    obtain ⟨p, v1, v2, rfl, hp1, h3, h4⟩ := R.t2_ h1
    obtain ⟨b, w1, w2, rfl, hb, h5, h6⟩ := R.t2_ h3
    rw [R.int_ h5, R.int_ h6] at hb
    exact ⟨(p, b) :: ps, ([.inl x.1.1, .inl x.1.2], v2) :: kvs, by rw [e]; rfl, .cons ⟨SqT.of (s _ _ hp1), s _ _ hb⟩ hp, .cons (k := x.1) h4 hr⟩
end
/-! ### max and min of a list -/
def mxI : List Int → Option Int
  | [] => none
  | x :: xs => match mxI xs with
    | none => some x
    | some m => some (if m < x then x else m)
def mnI : List Int → Option Int
  | [] => none
  | x :: xs => match mnI xs with
    | none => some x
    | some m => some (if x < m then x else m)
theorem mxI_none : ∀ {xs : List Int}, mxI xs = none → xs = []
  | [], _ => rfl
  | x :: xs, h => by
    unfold mxI at h
    cases e : mxI xs <;> rw [e] at h <;> exact nomatch h
theorem mnI_none : ∀ {xs : List Int}, mnI xs = none → xs = []
  | [], _ => rfl
  | x :: xs, h => by
    unfold mnI at h
    cases e : mnI xs <;> rw [e] at h <;> exact nomatch h
theorem mxI_is : ∀ {xs : List Int} {m : Int}, mxI xs = some m → m ∈ xs ∧ ∀ y ∈ xs, y ≤ m
  | [], _, h => nomatch h
  | x :: xs, m, h => by
    unfold mxI at h
    cases e : mxI xs with
    | none =>
      rw [e] at h
      cases h
      rw [mxI_none e]
      exact ⟨List.mem_cons_self, fun y hy => by rw [List.mem_singleton.mp hy]; exact Int.le_refl _⟩
    | some n =>
      rw [e] at h
      obtain ⟨h1, h2⟩ := mxI_is e
      have h : (if n < x then x else n) = m := Option.some.inj h
      by_cases z : n < x
      · rw [if_pos z] at h
        subst h
        refine ⟨List.mem_cons_self, fun y hy => ?_⟩
        rcases List.mem_cons.mp hy with hy | hy
        · omega
        · have := h2 y hy; omega
      · rw [if_neg z] at h
        subst h
        refine ⟨List.mem_cons_of_mem _ h1, fun y hy => ?_⟩
        rcases List.mem_cons.mp hy with hy | hy
        · omega
        · exact h2 y hy
theorem mnI_is : ∀ {xs : List Int} {m : Int}, mnI xs = some m → m ∈ xs ∧ ∀ y ∈ xs, m ≤ y
  | [], _, h => nomatch h
  | x :: xs, m, h => by
    unfold mnI at h
    cases e : mnI xs with
    | none =>
      rw [e] at h
      cases h
      rw [mnI_none e]
      exact ⟨List.mem_cons_self, fun y hy => by rw [List.mem_singleton.mp hy]; exact Int.le_refl _⟩
    | some n =>
      rw [e] at h
      obtain ⟨h1, h2⟩ := mnI_is e
      have h : (if x < n then x else n) = m := Option.some.inj h
      by_cases z : x < n
      · rw [if_pos z] at h
        subst h
        refine ⟨List.mem_cons_self, fun y hy => ?_⟩
        rcases List.mem_cons.mp hy with hy | hy
        · omega
        · have := h2 y hy; omega
      · rw [if_neg z] at h
        subst h
        refine ⟨List.mem_cons_of_mem _ h1, fun y hy => ?_⟩
        rcases List.mem_cons.mp hy with hy | hy
        · omega
        · exact h2 y hy
theorem mxI_uq {xs : List Int} {m n : Int} (h : mxI xs = some m) (h1 : n ∈ xs) (h2 : ∀ y ∈ xs, y ≤ n) : m = n := by
  have a := mxI_is h
  have b := a.2 n h1
  have c := h2 m a.1
  omega
theorem mnI_uq {xs : List Int} {m n : Int} (h : mnI xs = some m) (h1 : n ∈ xs) (h2 : ∀ y ∈ xs, n ≤ y) : m = n := by
  have a := mnI_is h
  have b := a.2 n h1
  have c := h2 m a.1
  omega
section
variable {X : Cx} {K : PySem.W.Frag}
theorem cr_maxK (hc : X.calm = true) (h : X.K = K) : CallR X (.builtin "max") (rMax K) := by rw [← h]; exact cr_max hc
theorem cr_minK (hc : X.calm = true) (h : X.K = K) : CallR X (.builtin "min") (rMin K) := by rw [← h]; exact cr_min hc
end
end PG

set_option Elab.async false
set_option linter.all false
set_option maxRecDepth 100000
set_option maxHeartbeats 4000000
namespace PG
open PySem PySem.Spec PyProof.Rows L2
open PySem.W (T3 T4 Datum DatumOrd Holds HoldAll EachIs)
variable {K0 : PySem.W.Frag} [KF K0]
/-! ### an exception that was caught and is kept: tracked from then on -/
def excAt (cls : Value) (d : Option Addr) (a : Addr) : Heap → Prop := fun h => ∃ o vs, h.get? a = some o ∧ Zc cls d o ∧ o.data = .fields vs
def excO (cls : Value) (d : Option Addr) (a : Addr) : HO := .ext (excAt cls d a)
section
variable {X : Cx} {pins : List (Addr × Obj)} {σ : L2.St} {H : Hp} {s : Shared}
theorem adopt {a : Addr} {cls : Value} {d : Option Addr} (I : L2.Inv X pins σ H s) (ha : H a = none) (hp : excAt cls d a s.heap) (h0 : X.s_0.heap.get? a = none) (nL : a ≠ X.env.locals) (np : ∀ p ∈ X.pn ++ pins, p.1 ≠ a) :
    L2.Inv X pins σ (upd H a (excO cls d a)) s := by
  obtain ⟨o, vs, ho, hz, hd⟩ := id hp
  have keep : ∀ {b : Addr} {u : HO}, H b = some u → upd H a (excO cls d a) b = some u := fun {b u} q => (upd_ne (ne_of_none q ha)).trans q
  have bare : ∀ {b : Addr}, b ≠ a → H b = none → upd H a (excO cls d a) b = none := fun {b} z q => (upd_ne z).trans q
  refine ⟨I.ok, I.os, I.bare, ⟨I.base.keep, I.base.slot, fun b u q n hx => bare (fun z => ?_) (I.base.free b u q n hx), I.base.there, fun b xs q => keep (I.base.tups b xs q), fun b u v q => keep (I.base.frzs b u v q), fun b ps q => ?_⟩, I.loc, I.cell, bare (Ne.symm nL) I.free, fun y k e => bare (fun z => ?_) (I.freeC y k e), fun p hq => ?_, ?_, I.len⟩
  · rw [z, h0] at q; exact nomatch q
  · obtain ⟨more, r⟩ := I.base.tbls b ps q
    exact ⟨more, keep r⟩
  · obtain ⟨v, w, hw, hv⟩ := I.cell y k e
    rw [z, ho] at hw
    cases hw
    rw [hd] at hv
    exact nomatch hv
  · obtain ⟨q1, q2, q3⟩ := I.pin p hq
    exact ⟨q1, bare (np p hq) q2, q3⟩
  · exact L2.HOk.laidN I.hok (fun _ _ q => q) ha ⟨hp, ⟨o, ho⟩, fun g1 g2 x k => x.imp fun o' y => y.imp fun vs' z => ⟨k _ z.1, z.2⟩⟩
end
/-- what the clause 'except x as n', whose suite keeps the exception, wishes -/
def wKeep (K : PySem.W.Frag) (c : Value) (i : Nat) (ts : Addr → TS) (out : WX) (D : Ends) : WX := fun cls d σ H =>
  ∃ b, PySem.W.exmOne K cls c = some b ∧ (b = true → ∀ a, H a = none → ts a { nx := fun σ' H' => D.nx (σ'.set i none) (upd H' a (excO cls d a)), rt := fun _ _ => False, bk := fun _ _ => False, ct := fun _ _ => False } (σ.set i (some (.ref a))) H) ∧ (b = false → out cls d σ H)
section
variable {X : Cx} {x n : Str} {c : Value} {i : Nat} {body suite : List Stmt} {b1 : Stmt} {np q1 q2 : Pos} {tb : WX → TS} {ts : Addr → TS} {out : WX}
theorem ps_try_keep (hs : X.stack = X.env :: X.outer) (hf : X.env.frame = some X.env.locals) (hex : X.ex = []) (hN : X.N.Nodup) (hi : X.N[i]? = some n) (hl : X.env.kindOf n = some .local) (hc : Names X x c) (tk : Takes X out)
    (hb : ∀ (W : WX) (pn : List (Addr × Obj)) (xe : Value → Shared → Prop), Takes (X.tr pn xe) W → PassesOwn (model X.prog X.w) X.A X.env xe → PSs (X.tr pn xe) body (tb W))
    (hsu : ∀ (a : Addr) (o : Obj) (pn : List (Addr × Obj)), PSs (X.suite a ((a, o) :: pn)) (b1 :: suite) (ts a)) :
    PS X (.Try body [.ExceptHandler (some (.Name x np)) (some n) (b1 :: suite) q1] [] [] q2) (fun D σ H => tb (wKeep X.K c i ts out D) D σ H) := by
  refine ⟨fun pins s σ H D I wish => wpAny_Try_except ?_⟩
  have ok := I.ok
  have hfr : X.A.frames = some (X.env :: X.outer) := ok.frames.trans (by rw [hs])
  have run := (hb (wKeep X.K c i ts out D) (X.pn ++ pins) (fun e g1 => wpAny (model X.prog X.w) X.A (noteFrame e X.env) (fun _ g2 => wpAny (model X.prog X.w) X.A (setFlight e none)
    (fun _ g3 => wpAny (model X.prog X.w) X.A (handleBy e X.env [.ExceptHandler (some (.Name x np)) (some n) (b1 :: suite) q1]) (SP X pins D) X.xe g3) X.xe g2) X.xe g1)
    (fun u g ⟨a, B, sI, ps, τ, G, cls, d, eu, J0, nb, up, sky, na, eos, ag, b, hb1, yes, no⟩ => by
      subst eu
      have J : L2.Inv X pins τ G sI := J0.ofTry ok
      show wpAny (model X.prog X.w) X.A (noteFrame (.ref a) X.env) _ _ _
      refine Sky.land Zc.steady hfr hf (show Sky B (X.env :: X.outer) a (Zc cls d) X.env.locals g.heap by rw [← hs]; exact sky) fun k1 fl1 up1 => ?_
      have J1 : L2.Inv X pins τ G { g with heap := k1 } := J.landed nb fl1.1 (up.trans up1) eos ag
      obtain ⟨o1, vs1, ho1, hz1, hd1⟩ := fl1.there
      have off : a ∉ frs (X.env :: X.outer) := fun hm => by
        obtain ⟨_, o', eo, hnf⟩ := fl1.2.2.1.mem hm
        rw [ho1] at eo
        cases eo
        exact hnf _ hd1
      have nL : a ≠ X.env.locals := fun z => off (List.mem_filterMap.mpr ⟨X.env, List.mem_cons_self, by rw [hf, z]⟩)
      have nF : a ∉ X.fs := fun hm => by
        obtain ⟨e, he, q⟩ := List.mem_filterMap.mp hm
        exact off (List.mem_filterMap.mpr ⟨e, List.mem_cons_of_mem _ he, q⟩)
      have young : ∀ o, sI.heap.get? a ≠ some o := fun o q => by
        have z := nb a o q (by rw [hs]; exact off)
        rw [fl1.2.1] at z
        exact nomatch z
      have h0 : X.s_0.heap.get? a = none := by
        cases q : X.s_0.heap.get? a with
        | none => rfl
        | some o =>
          obtain ⟨o', z⟩ := J.base.there a o q (by rw [hex]; exact fun z => nomatch z)
          exact (young _ z).elim
      have offp : ∀ p ∈ X.pn ++ pins, p.1 ≠ a := fun p hp z => young p.2 (by rw [← z]; exact (J.pin p hp).1)
      have S1 := J1.suite ho1 hd1 na nL nF
      refine wpAny_handleBy_cons (codeAny_handlers_test ?_) (fun q => nomatch q)
      have look : PySem.W.Looks (model X.prog X.w) k1 (typeOf (.ref a)) cls := fun _ _ _ _ k q => wpAny_typeOf_ref (k _ _ ho1) (by rw [hz1.1]; exact q)
      have match_ := PySem.W.exm_one (M := model X.prog X.w) J1.kIn look hb1
      have named : ∀ {Q : Value → Shared → Prop} {E : Value → Shared → Prop}, Q c { g with heap := k1 } → wpAny (model X.prog X.w) (X.A.mark (some (.ref a))) (eval (.Name x np) X.env) Q E { g with heap := k1 } := fun {Q E} q => by
        obtain ⟨hg, hdbg, hm | ⟨hm, hv, hnn⟩⟩ := hc
        · exact ld_glob (X := X.suite a ((a, o1) :: (X.pn ++ pins))) S1 hg hm q hdbg
        · exact ld_blt (X := X.suite a ((a, o1) :: (X.pn ++ pins))) S1 hg hm hv q hnn hdbg
      refine named (match_.here ?_)
      cases b with
      | true =>
        refine codeAny_handlers_suite_as (HandSPX.lands_againZ fl1 fun k2 fl2 up2 => ?_)
        have J2 : L2.Inv X pins τ G { g with heap := k2 } := J.landed nb fl2.1 ((up.trans up1).trans up2) eos ag
        obtain ⟨o2, vs2, ho2, hz2, hd2⟩ := fl2.there
        refine store_ok (X := X.suite a ((a, o2) :: (X.pn ++ pins))) (v := .ref a) (J2.suite ho2 hd2 na nL nF) hN hi (.inl hl) rfl (fun g5 S5 => ?_) (.inr hl)
        refine wpAny_mono ((hsu a o2 (X.pn ++ pins)).run [] g5 _ G _ S5 (yes rfl a na)) (fun f g6 hsp => ?_) (fun _ _ z => z.elim)
        cases f with
        | next =>
          obtain ⟨τ6, G6, S6, q6⟩ := hsp
          refine gone_ok (X := X.suite a ((a, o2) :: (X.pn ++ pins))) S6 hN hi hl fun g7 S7 => ?_
          obtain ⟨hget, hn7, _⟩ := S7.pin (a, o2) (List.mem_append_left _ List.mem_cons_self)
          exact ⟨_, _, adopt (S7.unsuite ok) hn7 ⟨o2, vs2, hget, hz2, hd2⟩ h0 nL offp, q6⟩
        | brk => obtain ⟨_, _, _, q6⟩ := hsp; exact q6.elim
        | cont => obtain ⟨_, _, _, q6⟩ := hsp; exact q6.elim
        | ret u => obtain ⟨_, _, _, _, _, q6⟩ := hsp; exact q6.elim
      | false =>
        refine wpAny_handleBy_nil ?_
        obtain ⟨_, _, _, o3, vs3, T, oT, ts3, he, hz, hd, h1, hr⟩ := id fl1
        unfold PySem.passOn
        refine wpAny_bind (wpAny_field he hd h1 ?_)
        rw [if_neg (by simp : ¬ ((Value.ref T == Value.none) = true))]
        have up_ : wpAny (model X.prog X.w) X.A (setFlight (.ref a) X.env.frame) (fun _ g4 => wpAny (model X.prog X.w) X.A (throw (.ref a) : Sem Flow) (SP X pins D) X.xe g4) X.xe { g with heap := k1 } := by
          rw [hf]
          exact HandSPX.setFlight_upZ fl1 fun k2 fl2 up2 => wpAny_throw (tk _ _ ⟨a, B, sI, pins, τ, G, cls, d, rfl, J, nb, (up.trans up1).trans up2, .inr (.inr (by rw [hs]; exact fl2)), na, eos, ag, no rfl⟩)
        first
          | exact wpAny_bind up_
          | exact wpAny_bind (wpAny_pure (wpAny_bind up_)))
    PassesOwn.looking).run [] s σ H D (I.toTry _) wish
  refine wpAny_mono run (fun f g hsp => ?_) (fun _ _ z => z)
  cases f with
  | next => obtain ⟨τ, G, J, q⟩ := hsp; exact wpAny_execs_nil ⟨τ, G, J.ofTry ok, q⟩
  | brk => obtain ⟨τ, G, J, q⟩ := hsp; exact ⟨τ, G, J.ofTry ok, q⟩
  | cont => obtain ⟨τ, G, J, q⟩ := hsp; exact ⟨τ, G, J.ofTry ok, q⟩
  | ret u => obtain ⟨v, τ, G, J, r, q⟩ := hsp; exact ⟨v, τ, G, J.ofTry ok, r, q⟩
end
/-! ### isinstance of what was caught -/
section
variable {X : Cx}
theorem inst_of {a D : Addr} {h : Heap} (x : excAt (.ref D) none a h) : ∃ o, PySem.W.InstAt h a o D none := by
  obtain ⟨⟨oc, od, oda, osl⟩, vs, hg, ⟨h1, h2⟩, h3⟩ := x
  dsimp only at h1 h2 h3
  subst h1 h2 h3
  exact ⟨_, hg, rfl, rfl, trivial⟩
/-- whose class is t: what was caught, or a value of a built-in type -/
inductive KX (K : PySem.W.Frag) (H : Hp) : V → Value → Prop where
  | exc {a D : Addr} (e : H a = some (excO (.ref D) none a)) (c : ExcC K D) : KX K H (.ref a) (.ref D)
  | base {x : V} {t : Value} (h : TyX K H x t) : KX K H x t
theorem kx_of {pins : List (Addr × Obj)} {σ : L2.St} {H : Hp} {s : Shared} {x : V} {u t : Value} (I : L2.Inv X pins σ H s) (rx : RelV x u) (k : KX X.K H x t) : ∃ P : Heap → Prop, PySem.W.KitX X.K u t P ∧ P s.heap ∧ u ≠ .builtin "__main__.__loader__#opaque" := by
  cases k with
  | @exc a D e C =>
    cases (show u = Value.ref a from rx)
    obtain ⟨o, J⟩ := inst_of (show excAt (.ref D) none a s.heap from (I.hok a _ e).1)
    exact ⟨_, PySem.W.handS_kitx_exc C.hg C.hk C.hs C.hd C.ha C.hn C.ht C.hm, J, fun z => nomatch z⟩
  | base h => exact kit_of I rx h
def rIsU (K : PySem.W.Frag) : List V → Hp → VK → Prop := fun xs H Q => ∃ (x c : V) (t u : Value) (b : Bool), xs = [x, c] ∧ ClsV c u ∧ KX K H x t ∧ PySem.W.kitOne K t u = some b ∧ Q (.bl b) H
theorem isuK {K : PySem.W.Frag} (hK : X.K = K) : CallR X (.builtin "isinstance") (rIsU K) := by
  subst hK
  intro pins s σ H xs us Q I r ⟨x, c, t, u, b, ex, hc, k, e, q⟩
  subst ex
  obtain ⟨u1, u2, rfl, r1, r2⟩ := vals2 r
  cases hc.eq r2
  obtain ⟨P, Z, p, hx⟩ := kx_of I r1 k
  exact PySem.W.kia_one Z I.kIn p e hx fun tk => ⟨.bl b, H, I.tok tk, rfl, q⟩
def rIsUT (K : PySem.W.Frag) : List V → Hp → VK → Prop := fun xs H Q => ∃ (x : V) (tp : Addr) (cs : List V) (t : Value) (ws : List Value) (b : Bool), xs = [x, .ref tp] ∧ H tp = some (.tup cs) ∧ Paired ClsV cs ws ∧ KX K H x t ∧ PySem.W.kitAny K t ws = some b ∧ Q (.bl b) H
theorem isutK {K : PySem.W.Frag} (hK : X.K = K) : CallR X (.builtin "isinstance") (rIsUT K) := by
  subst hK
  intro pins s σ H xs us Q I r ⟨x, tp, cs, t, ws, b, ex, hT, hc, k, e, q⟩
  subst ex
  obtain ⟨u1, u2, rfl, r1, r2⟩ := vals2 r
  cases (show u2 = Value.ref tp from r2)
  obtain ⟨P, Z, p, hx⟩ := kx_of I r1 k
  obtain ⟨_, its, rv, ⟨oc, od, dt, sl⟩, h1, h2, n, h3⟩ := (show ObjOk X.prog X.w H s.heap tp (.tup cs) from I.hok tp _ hT)
  have e3 := ClsV.all hc rv
  subst e3
  dsimp only at h2 h3
  subst h2 h3
  exact PySem.W.kia_tup Z I.kIn p h1 e hx fun tk => ⟨.bl b, H, I.tok tk, rfl, q⟩
end
theorem kit_own {K : PySem.W.Frag} {t : Value} {C : Addr} {b : Bool} (hd : PySem.W.hasDictIn K C = true) (ht : PySem.W.typeIn K (.ref C) = some (.type "type")) (hs : PySem.W.subIn K t (.ref C) = some b) (ho : PySem.W.subIn K (.ref C) (.ref C) = some true) : PySem.W.kitOne K t (.ref C) = some b := by
  obtain ⟨cd, hc, _⟩ := PySem.W.any_some hd
  unfold PySem.W.kitOne PySem.W.kitCls
  by_cases z : (t == .ref C) = true
  · rw [if_pos z]
    have z := beq_iff_eq.mp z
    subst z
    exact ho.symm.trans hs
  · rw [if_neg z]
    show (if ((PySem.W.clsIn K C).isSome && PySem.W.typeIn K (.ref C) == some (.type "type")) = true then _ else _) = _
    rw [if_pos (by rw [hc, ht]; rfl)]
    exact hs
theorem kit_blt {K : PySem.W.Frag} {D : Addr} {T : String} {b : Bool} (hm : PySem.W.kitMeta T = true) (hs : PySem.W.subIn K (.ref D) (.type T) = some b) : PySem.W.kitOne K (.ref D) (.type T) = some b := by
  unfold PySem.W.kitOne PySem.W.kitCls
  rw [if_neg (by simp)]
  show (if PySem.W.kitMeta T = true then _ else _) = _
  rw [if_pos hm]
  exact hs
theorem any_no {K : PySem.W.Frag} {t c : Value} {cs : List Value} {r : Bool} (h : PySem.W.kitOne K t c = some false) (hr : PySem.W.kitAny K t cs = some r) : PySem.W.kitAny K t (c :: cs) = some r := kitAny_cons h (fun _ => hr) fun z => nomatch z
theorem any_yes {K : PySem.W.Frag} {t c : Value} {cs : List Value} (h : PySem.W.kitOne K t c = some true) : PySem.W.kitAny K t (c :: cs) = some true := kitAny_cons h (fun z => nomatch z) fun _ => rfl
/-! ### a call within a try -/
def tCallW (sp : Sp) (W : WX) (t : TA) : TE := fun σ H Q => t σ H fun vs H1 => sp vs H1 Q fun cls d H' => W cls d σ H'
theorem pe_callW {X : Cx} {k : Nat} {f : Addr} {fd : FuncData} {ps : List Str} {sp : Sp} {W : WX} {x : Str} {p pos : Pos} {e : Expr} {es : List Expr} {t : TA} (F : FnOk X.prog X.w X.K X.mg X.base (L2.CX X.prog X.w) k f fd ps sp) (hr : Room k X.A) (hg : Gl X x) (hm : X.mg x = some (.ref f)) (hk : PySem.W.keepIn X.K (.ref f) = true) (hb : Binds X.K fd ps [])
    (tk : Takes X W) (ha : PA X (e :: es) t) (hdb : (x == ("__debug__" : Str)) = false := by decide) (he : starEach (e :: es) X.env = (false, eval e X.env) :: starEach es X.env := by rfl) (hpl : (backTo pos (starEach es X.env)).any (·.1) = false := by rfl) :
    PE X (.Call (.Name x p) (e :: es) [] pos) (tCallW sp W t) := by
  refine ⟨fun pins s σ H Q I h => wpAny_Call_Name_kw (ld_glob I hg hm ?_ hdb)⟩
  refine PySem.W.callWith_K (h₀ := X.base) I.ok.mod.kin hk (thn (ha.run pos pins s σ H _ I h) fun us g ⟨vs, G, J, r, q⟩ => ⟨J.kIn, ?_⟩) he hpl
  have hl : us.length = ps.length := by rw [← r.length]; exact F.len _ _ _ _ q
  refine wpAny_call (codeAny_mono (F.run X.A X.stack g G ⟨us, []⟩ us vs Q (fun cls d H' => W cls d σ H') hr J.env0 (by have := hb g us J.kIn (by simpa using hl); simpa using this) r q) fun res g' hq => ?_)
  cases res with
  | error z => exact tk _ _ (XE.of_call J (fun _ _ _ h => h) hq)
  | ok fl =>
    cases fl with
    | ret u => exact J.after hq
    | next => exact hq.elim
    | brk => exact hq.elim
    | cont => exact hq.elim
/-- try: m, except one of those of L: k1, else k0 -/
def tryK {a : Type} (L : List String) (m : M Unit) (k0 : M a) (k1 : String → M a) : M a := match m with
  | .ok _ => k0
  | .error .bad => bad
  | .error (.exc n) => if n ∈ L then k1 n else bad
theorem wp_tryK {b : Type} {L : List String} {m : M Unit} {k0 : M b} {k1 : String → M b} {Q : b → Prop} {E : String → Prop} (h : wp (tryK L m k0 k1) Q E) : wp m (fun _ => wp k0 Q E) fun n => n ∈ L ∧ wp (k1 n) Q E := by
  cases m with
  | ok x => exact h
  | error e =>
    cases e with
    | bad => exact h
    | exc n =>
      by_cases z : n ∈ L
      · have e : tryK L (.error (.exc n)) k0 k1 = k1 n := if_pos z
        rw [e] at h
        exact ⟨z, h⟩
      · have e : tryK L (.error (.exc n)) k0 k1 = bad := if_neg z
        rw [e] at h
        exact h.elim
theorem wp_okE {a : Type} {x : a} {Q : a → Prop} {E : String → Prop} (h : wp (.ok x : M a) Q E) : Q x := h
theorem Ow.exc {Z : Ent} {F H H1 : Hp} {cs : List (Addr × HO)} (O : Ow Z F cs H) (k : Kp [] H H1) : Ow Z F cs H1 where
  g := {
    f := O.g.f
    s := fun b o e => k.k b o (fun z => nomatch z) (O.g.s b o e)
    k := fun b o hb e => k.k b o (fun z => nomatch z) (O.g.k b o hb e)
    t := fun b h => k.t b (O.g.t b h)
    n := O.g.n
    u := fun b xs e => by
      cases q : H b with
      | none =>
        left
        cases z : Z.H b with
        | none => rfl
        | some o => exact (O.g.t b (by rw [z]; exact fun w => nomatch w) q).elim
      | some o =>
        have := k.k b o (fun z => nomatch z) q
        rw [e] at this
        cases this
        exact O.g.u b xs q }
  cf := O.cf
  ch := fun c hc => k.k _ _ (fun z => nomatch z) (O.ch c hc)
  nd := O.nd
  ca := O.ca
  nt := O.nt
theorem mem1 {n a : String} (h : n ∈ [a]) : n = a := List.mem_singleton.mp h
theorem mem2 {n a b : String} (h : n ∈ [a, b]) : n = a ∨ n = b := by simpa using h
/-! ### lists of truths: count, index -/
theorem RL.bools {H : Hp} : ∀ {vs : List V} {xs : List Bool}, RL H vs xs → vs = xs.map V.bl
  | _, [], h => RL.nil_ h
  | _, x :: xs, h => by
    obtain ⟨w, ws, rfl, h1, h2⟩ := RL.cons_ h
    rw [R.bl_ h1, RL.bools h2]
    rfl
def cntB (k : Bool) : List Bool → Int
  | [] => 0
  | y :: r => (if y = k then 1 else 0) + cntB k r
theorem cnt_in (k : Bool) : ∀ bs : List Bool, PySem.Spec.countIn (.bool k) (bs.map PyData.bool) = cntB k bs
  | [] => rfl
  | b :: bs => by
    show (if same (PyData.bool b) (PyData.bool k) = true then (1 : Int) else 0) + PySem.Spec.countIn _ _ = _
    rw [cnt_in k bs]
    cases b <;> cases k <;> rfl
theorem bools_vals : ∀ {bs : List Bool} {its : List Value}, Vals (bs.map V.bl) its → its = bs.map Value.bool
  | [], its, r => by rw [List.map_nil] at r; cases r; rfl
  | b :: bs, its, r => by
    rw [List.map_cons] at r
    cases r with
    | cons h t => cases h; rw [List.map_cons, ← bools_vals t]
theorem reads_bools {hp : Heap} : ∀ bs : List Bool, ReadsAll hp (bs.map Value.bool) (bs.map PyData.bool) []
  | [] => .nil
  | b :: bs => .cons (as := []) (bs := []) (.bool b) (reads_bools bs)
def rCntB (K : PySem.W.Frag) : V → List V → Hp → VK → Prop := fun x xs H Q => ∃ (a : Addr) (bs : List Bool) (k : Bool), x = .ref a ∧ xs = [.bl k] ∧ SqL K H a (bs.map V.bl) ∧ Q (.int (cntB k bs)) H
theorem countBK {X : Cx} {K : PySem.W.Frag} (hK : X.K = K) : MtR X "list.count" (rCntB K) := by
  subst hK
  intro pins s σ H x xs v us Q I rx r ⟨a, bs, k, ex, exs, hs, q⟩
  subst ex exs
  cases rx
  obtain ⟨u, rfl, ru⟩ := vals1 r
  cases ru
  obtain ⟨its, rv, pl, _⟩ := I.list hs
  cases bools_vals rv
  refine count_list_bools (hp := s.heap) (xs := bs.map PyData.bool) pl.isList (reads_bools bs) (List.all_eq_true.mpr fun y hy => ?_) ?_
  · obtain ⟨b, _, rfl⟩ := List.mem_map.mp hy
    rfl
  · rw [cnt_in]
    exact ⟨.int (cntB k bs), H, I.tok _, ⟨_, rfl⟩, q⟩
def ixB (xs : List Bool) (y : Bool) : M Int := if y ∈ xs then .ok ((xs.findIdx (· == y) : Nat) : Int) else bad
theorem wp_ixB {a : Type} {Q : a → Prop} {E : String → Prop} {xs : List Bool} {y : Bool} {k : Int → M a} (h : wp (ixB xs y >>= k) Q E) : ∃ j, xs.findIdx (· == y) = j ∧ xs[j]? = some y ∧ (∀ (m : Nat) z, m < j → xs[m]? = some z → z ≠ y) ∧ wp (k (j : Int)) Q E := by
  unfold ixB at h
  by_cases hm : y ∈ xs
  · rw [if_pos hm] at h
    have hlt : xs.findIdx (· == y) < xs.length := List.findIdx_lt_length_of_exists ⟨y, hm, by simp⟩
    refine ⟨_, rfl, ?_, fun m z hmj hz e => ?_, h⟩
    · rw [List.getElem?_eq_getElem hlt]
      have := List.findIdx_getElem (w := hlt)
      rw [eq_of_beq this]
    · have := List.not_of_lt_findIdx hmj
      obtain ⟨hl, hz⟩ := List.getElem?_eq_some_iff.mp hz
      rw [hz, e] at this
      simp at this
  · rw [if_neg hm] at h; exact h.elim
theorem all_flat_bl : ∀ xs : List Bool, (xs.map V.bl).all flatV = true
  | [] => rfl
  | x :: xs => by rw [List.map_cons, List.all_cons, all_flat_bl xs]; rfl
theorem bl_noeq {xs : List Bool} {y : Bool} {j : Nat} (h : ∀ (m : Nat) z, m < j → xs[m]? = some z → z ≠ y) : ∀ (m : Nat) (z' : V), m < j → (xs.map V.bl)[m]? = some z' → eqV z' (.bl y) = false := fun m z' hm hz => by
  rw [List.getElem?_map] at hz
  cases e : xs[m]? with
  | none => rw [e] at hz; cases hz
  | some z =>
    rw [e] at hz
    have hz : V.bl z = z' := Option.some.inj hz
    subst hz
    have := h m z hm e
    revert this
    cases z <;> cases y <;> intro this <;> first | rfl | exact (this rfl).elim
theorem bl_at {xs : List Bool} {y : Bool} {j : Nat} (h : xs[j]? = some y) : (xs.map V.bl)[j]? = some (.bl y) := by rw [List.getElem?_map, h]; rfl
theorem bl_eq {y : Bool} : eqV (.bl y) (.bl y) = true := by cases y <;> rfl
/-- x in xs, of data that are no scalars -/
def inD {a : Type} [DecidableEq a] (x : a) (xs : List a) : Prop := x ∈ xs
instance {a : Type} [DecidableEq a] (x : a) (xs : List a) : Decidable (inD x xs) := @List.instDecidableMemOfLawfulBEq a instBEqOfDecidableEq _ x xs
theorem iteDx {c A B : Prop} {i : Decidable c} (h1 : c → A) (h2 : ¬ c → B) : if @decide c i = true then A else B := @iteD c A B i h1 h2
theorem iteNx {c A B : Prop} {i : Decidable c} (h1 : c → B) (h2 : ¬ c → A) : if (!@decide c i) = true then A else B := @iteN c A B i h1 h2
theorem sl43 (a b c d : V) : ¬ (HT.sIx [a, b, c, d].length 0 none = 0 ∧ HT.sIx [a, b, c, d].length [a, b, c, d].length (some (3 : Int)) = [a, b, c, d].length) := fun h => absurd h.2 (by show ¬ (HT.sIx 4 4 (some (3 : Int)) = 4); decide)
theorem dgetD_S {β : Type} [Py β] {F H : Hp} {a : Addr} {kvs : List (Key × V)} {i : Str} {xs : List (Str × β)} {z : V} {y : β} (e : Rd H a (.dK kvs)) (hr : RD F kvs xs) (hz : R F z y) : ∃ o, DGet H a (.str i) o ∧ R F (o.getD z) ((dGet xs i).getD y) := by
  refine ⟨valV kvs (.inr i), dgk (k := .inr i) e, ?_⟩
  rcases hr.get i with ⟨h1, h2⟩ | ⟨u, v, h1, h2, h3⟩
  · rw [h1, show valV kvs (.inr i) = none from h2]; exact hz
  · rw [h1, show valV kvs (.inr i) = some v from h2]; exact h3
end PG

set_option Elab.async false
set_option linter.all false
set_option maxRecDepth 100000
set_option maxHeartbeats 4000000
namespace PG
open PySem PySem.Spec PyProof.Rows L2
open PySem.W (T3 T4 Datum DatumOrd Holds HoldAll EachIs)
variable {K0 : PySem.W.Frag} [KF K0]
/-! ### a list of lists that are all ours: the outer cell and the inner ones, any number of them, behind the other cells -/
abbrev LCV := Addr × List V
def lcV (c : LCV) : Addr × HO := (c.1, .lst c.2)
def llC (p : Addr) (ps : List LCV) : List (Addr × HO) := (p, .lst (ps.map fun c => V.ref c.1)) :: ps.map lcV
/-- the inner lists stand for these -/
inductive LLR {a : Type} [Py a] (F : Hp) : List LCV → List (List a) → Prop
  | nil : LLR F [] []
  | cons {c : LCV} {xs : List a} {ps : List LCV} {p : List (List a)} : RL F c.2 xs → LLR F ps p → LLR F (c :: ps) (xs :: p)
section
variable {a : Type} [Py a] {F F' : Hp}
theorem LLR.mono {ps : List LCV} {p : List (List a)} (h : LLR F ps p) (s : Same F F') : LLR F' ps p := by
  induction h with
  | nil => exact .nil
  | cons h _ ih => exact .cons (h.mono s) ih
theorem LLR.len {ps : List LCV} {p : List (List a)} (h : LLR F ps p) : ps.length = p.length := by
  induction h with
  | nil => rfl
  | cons _ _ ih => rw [List.length_cons, List.length_cons, ih]
theorem LLR.got {ps : List LCV} {p : List (List a)} (h : LLR F ps p) : ∀ {j : Nat} {xs : List a}, p[j]? = some xs → ∃ c, ps[j]? = some c ∧ RL F c.2 xs := by
  induction h with
  | nil => intro j xs e; simp at e
  | @cons c ys ps p h _ ih =>
    intro j xs e
    cases j with
    | zero =>
      have e : ys = xs := Option.some.inj e
      subst e
      exact ⟨c, rfl, h⟩
    | succ j => exact ih e
theorem LLR.set {ps : List LCV} {p : List (List a)} (h : LLR F ps p) {w : List V} {xs : List a} (hw : RL F w xs) (q : Addr) : ∀ j : Nat, LLR F (ps.set j (q, w)) (p.set j xs) := by
  induction h with
  | nil => intro j; exact .nil
  | cons h hs ih =>
    intro j
    cases j with
    | zero => exact .cons hw hs
    | succ j => exact .cons h (ih j)
theorem LLR.snoc {ps : List LCV} {p : List (List a)} (h : LLR F ps p) {w : List V} {xs : List a} (hw : RL F w xs) (q : Addr) : LLR F (ps ++ [(q, w)]) (p ++ [xs]) := by
  induction h with
  | nil => exact .cons hw .nil
  | cons h _ ih => exact .cons h ih
end
section
variable {Z : Ent} {F H : Hp} {S : List (Addr × HO)} {p : Addr} {ps : List LCV} {c : LCV} {j : Nat}
theorem ref_set (hj : ps[j]? = some c) (w : List V) : ((ps.set j (c.1, w)).map fun c => V.ref c.1) = ps.map fun c => V.ref c.1 := by
  refine List.ext_getElem? fun i => ?_
  rw [List.getElem?_map, List.getElem?_map, List.getElem?_set]
  by_cases h : j = i
  · subst h
    rw [if_pos rfl, hj]
    rw [if_pos (List.getElem?_eq_some_iff.mp hj).1]
    rfl
  · rw [if_neg h]
theorem llC_at (hj : ps[j]? = some c) : (S ++ llC p ps)[S.length + 1 + j]? = some (c.1, .lst c.2) := by
  rw [List.getElem?_append_right (by omega)]
  show (llC p ps)[S.length + 1 + j - S.length]? = _
  rw [show S.length + 1 + j - S.length = j + 1 by omega]
  show (ps.map lcV)[j]? = _
  rw [List.getElem?_map, hj]
  rfl
theorem llC_top : (S ++ llC p ps)[S.length]? = some (p, .lst (ps.map fun c => V.ref c.1)) := by
  rw [List.getElem?_append_right (Nat.le_refl _), Nat.sub_self]
  rfl
theorem Ow.llAt (O : Ow Z F (S ++ llC p ps) H) (hj : ps[j]? = some c) : H c.1 = some (.lst c.2) := O.at _ (llC_at hj)
theorem Ow.llTop (O : Ow Z F (S ++ llC p ps) H) : H p = some (.lst (ps.map fun c => V.ref c.1)) := O.at _ llC_top
/-- one of the inner lists becomes w -/
theorem Ow.llSet (O : Ow Z F (S ++ llC p ps) H) (hj : ps[j]? = some c) (w : List V) : Ow Z F (S ++ llC p (ps.set j (c.1, w))) (upd H c.1 (.lst w)) := by
  have z := O.set (S.length + 1 + j) (.lst w) (llC_at hj)
  have e : (S ++ llC p ps).set (S.length + 1 + j) (c.1, .lst w) = S ++ llC p (ps.set j (c.1, w)) := by
    rw [List.set_append_right _ _ (by omega), show S.length + 1 + j - S.length = j + 1 by omega]
    unfold llC
    rw [ref_set hj w, List.set_cons_succ, List.map_set]
    rfl
  rw [e] at z
  exact z
/-- a new inner list goes behind -/
theorem Ow.llPush {q : Addr} {w : List V} (O : Ow Z F ((q, .lst w) :: (S ++ llC p ps)) H) : Ow Z F (S ++ llC p (ps ++ [(q, w)])) (upd H p (.lst ((ps.map fun c => V.ref c.1) ++ [V.ref q]))) := by
  have z := O.set (S.length + 1) (.lst ((ps.map fun c => V.ref c.1) ++ [V.ref q])) (show ((q, HO.lst w) :: (S ++ llC p ps))[S.length + 1]? = some (p, _) from llC_top)
  refine z.perm ?_
  have e : ((q, HO.lst w) :: (S ++ llC p ps)).set (S.length + 1) (p, .lst ((ps.map fun c => V.ref c.1) ++ [V.ref q])) = (q, HO.lst w) :: (S ++ ((p, .lst ((ps.map fun c => V.ref c.1) ++ [V.ref q])) :: ps.map lcV)) := by
    rw [List.set_cons_succ, List.set_append_right _ _ (Nat.le_refl _), Nat.sub_self]
    rfl
  rw [e]
  unfold llC
  rw [List.map_append, List.map_append]
  show ((q, HO.lst w) :: (S ++ ((p, HO.lst ((ps.map fun c => V.ref c.1) ++ [V.ref q])) :: ps.map lcV))).Perm (S ++ ((p, HO.lst ((ps.map fun c => V.ref c.1) ++ [V.ref q])) :: (ps.map lcV ++ [(q, HO.lst w)])))
  have e2 : S ++ ((p, HO.lst ((ps.map fun c => V.ref c.1) ++ [V.ref q])) :: (ps.map lcV ++ [(q, HO.lst w)])) = (S ++ ((p, HO.lst ((ps.map fun c => V.ref c.1) ++ [V.ref q])) :: ps.map lcV)) ++ [(q, HO.lst w)] := by
    rw [List.append_assoc, List.cons_append]
  rw [e2]
  exact (List.perm_append_singleton _ _).symm
/-- an empty one: a new outer list -/
theorem Ow.llNew (O : Ow Z F ((p, .lst []) :: S) H) : Ow Z F (S ++ llC p []) H := O.perm (List.perm_append_singleton _ _).symm
theorem Ow.frzM {A B : List (Addr × HO)} {b : Addr} {o : HO} (O : Ow Z F (A ++ (b, o) :: B) H) (hz : Z.H b = none) : ∃ F', Ow Z F' (A ++ B) H ∧ Same F F' ∧ F' b = some o := by
  have e : (A ++ (b, o) :: B)[A.length]? = some (b, o) := by rw [List.getElem?_append_right (Nat.le_refl _), Nat.sub_self]; rfl
  obtain ⟨F', O', s, h⟩ := O.frzE A.length e hz
  rw [List.eraseIdx_append_of_length_le (Nat.le_refl _), Nat.sub_self] at O'
  exact ⟨F', O', s, h⟩
theorem Ow.frzAll {a : Type} [Py a] : ∀ {ps : List LCV} {F : Hp} {A : List (Addr × HO)} {xs : List (List a)}, Ow Z F (A ++ ps.map lcV) H → (∀ c ∈ ps, Z.H c.1 = none) → LLR F ps xs →
    ∃ F', Ow Z F' A H ∧ Same F F' ∧ RL F' (ps.map fun c => V.ref c.1) xs
  | [], F, A, xs, O, _, r => by
    cases r
    rw [List.map_nil, List.append_nil] at O
    exact ⟨F, O, Same.refl _, RL.nil⟩
  | c :: ps, F, A, xs, O, hz, r => by
    cases r with
    | @cons _ x _ q h1 h2 =>
      obtain ⟨F1, O1, s1, g1⟩ := Ow.frzM (A := A) (B := ps.map lcV) (b := c.1) (o := .lst c.2) O (hz c List.mem_cons_self)
      obtain ⟨F2, O2, s2, r2⟩ := Ow.frzAll O1 (fun d hd => hz d (List.mem_cons_of_mem _ hd)) (h2.mono s1)
      exact ⟨F2, O2, s1.trans s2, RL.cons (R.lst (s2 _ _ g1) ((h1.mono s1).mono s2)) r2⟩
/-- all of it is read alone from now on -/
theorem Ow.llFrz {a : Type} [Py a] {xs : List (List a)} (O : Ow Z F (S ++ llC p ps) H) (hp : Z.H p = none) (hz : ∀ c ∈ ps, Z.H c.1 = none) (r : LLR F ps xs) : ∃ F', Ow Z F' S H ∧ Same F F' ∧ R F' (.ref p) xs := by
  obtain ⟨F1, O1, s1, g1⟩ := Ow.frzM (A := S) (B := ps.map lcV) (b := p) (o := .lst (ps.map fun c => V.ref c.1)) O hp
  obtain ⟨F2, O2, s2, r2⟩ := Ow.frzAll O1 hz (r.mono s1)
  exact ⟨F2, O2, s1.trans s2, R.lst (s2 _ _ g1) r2⟩
end
section
variable {a : Type} [Py a] {F : Hp}
theorem LLR.atI {ps : List LCV} {p : List (List a)} (h : LLR F ps p) {i : Int} {y : List a} (e : L2.atI p i = some y) :
    ∃ j c, L2.atI (ps.map fun c => V.ref c.1) i = some (V.ref c.1) ∧ ps[j]? = some c ∧ RL F c.2 y ∧ ixN p.length i = some j := by
  unfold L2.atI at e
  cases hx : ixN p.length i with
  | none => rw [hx] at e; exact nomatch e
  | some j =>
    rw [hx] at e
    have e : p[j]? = some y := e
    obtain ⟨c, hc, hr⟩ := h.got e
    refine ⟨j, c, ?_, hc, hr, rfl⟩
    unfold L2.atI
    rw [List.length_map, h.len, hx]
    show (ps.map fun c => V.ref c.1)[j]? = _
    rw [List.getElem?_map, hc]
    rfl
theorem zs_set {H : Hp} {ps : List LCV} {c : LCV} {j : Nat} (h : ∀ d ∈ ps, H d.1 = none) (hj : ps[j]? = some c) (w : List V) : ∀ d ∈ ps.set j (c.1, w), H d.1 = none := fun d hd => by
  rcases List.mem_or_eq_of_mem_set hd with hd | hd
  · exact h d hd
  · rw [hd]; exact h c (List.mem_of_getElem? hj)
theorem zs_snoc {H : Hp} {ps : List LCV} {q : Addr} {w : List V} (h : ∀ d ∈ ps, H d.1 = none) (hq : H q = none) : ∀ d ∈ ps ++ [(q, w)], H d.1 = none := fun d hd => by
  rcases List.mem_append.mp hd with hd | hd
  · exact h d hd
  · rw [List.mem_singleton.mp hd]; exact hq
end
/-! ### a list so many times -/
def repL {a : Type} (k : Int) (xs : List a) : List a := (List.replicate k.toNat xs).flatten
theorem RL.rep {a : Type} [Py a] {H : Hp} {vs : List V} {xs : List a} (h : RL H vs xs) (k : Int) : RL H (repL k vs) (repL k xs) := by
  unfold repL
  induction k.toNat with
  | zero => exact RL.nil
  | succ n ih =>
    rw [List.replicate_succ, List.replicate_succ, List.flatten_cons, List.flatten_cons]
    exact RL.app h ih
def CRep (n : Nat) (k : Int) : Prop := -(2 ^ 63) ≤ k ∧ k < 2 ^ 63 ∧ n * k.toNat < 16777216
instance (n : Nat) (k : Int) : Decidable (CRep n k) := by unfold CRep; infer_instance
theorem R.tpN {a : Type} [Py a] {F : Hp} {p : Addr} {vs : List V} {xs : List a} (h : F p = some (.tup vs)) (r : RL F vs xs) : R F (.ref p) (Tp.mk xs) := by
  show Rep F (.ref p) (.tuple (xs.map Py.toD))
  exact .tup (.inl h) r
/-! ### what is walked, K told outright (for comprehensions within one another) -/
section
variable {X : Cx} {K : PySem.W.Frag} {tg : Expr}
theorem piListK (h : X.K = K) {l : Expr} {tl : TE} (hl : PE X l tl) : PI X tg l (iList K tl) := by rw [← h]; exact pi_list hl
theorem piTupK (h : X.K = K) {l : Expr} {tl : TE} (hl : PE X l tl) : PI X tg l (iTup K tl) := by rw [← h]; exact pi_tup hl
theorem piEnumK (h : X.K = K) {e : Expr} {ta : TA} (hp : PI X tg e (iEnum X.K ta)) : PI X tg e (iEnum K ta) := by rw [← h]; exact hp
theorem piZipK (h : X.K = K) {e : Expr} {ta : TA} (hp : PI X tg e (iZip X.K ta)) : PI X tg e (iZip K ta) := by rw [← h]; exact hp
end
end PG

set_option Elab.async false
set_option linter.all false
set_option maxRecDepth 100000
set_option maxHeartbeats 4000000
namespace PG
open PySem PySem.Spec PyProof.Rows L2
open PySem.W (T3 T4 Datum DatumOrd Holds HoldAll EachIs)
variable {K0 : PySem.W.Frag} [KF K0]
/-! ### one of two kinds -/
inductive Un (a b : Type) where
  | l (x : a)
  | r (y : b)
  deriving DecidableEq
instance {a b : Type} [Py a] [Py b] : Py (Un a b) := ⟨fun
  | .l x => Py.toD x
  | .r y => Py.toD y⟩
section
variable {a b : Type} [Py a] [Py b] {F : Hp} {v : V}
theorem R.un_l {x : a} (h : R F v x) : R F v (Un.l x : Un a b) := h
theorem R.un_r {y : b} (h : R F v y) : R F v (Un.r y : Un a b) := h
end
instance {a b : Type} [Py a] [Py b] [DecidableEq a] [DecidableEq b] [DatumX (a × b)] : DatumX (Un (a × b) Str) := ⟨fun
  | .l x => DatumX.plain x
  | .r y => by show PyData.plain (.str y) = true; simp only [PyData.plain], fun
  | .l x, .l y => by
    show PyData.eqv (Py.toD x) (Py.toD y) = _
    rw [DatumX.eqv x y]
    exact decide_eq_decide.mpr (by rw [Un.l.injEq])
  | .l x, .r y => by
    show PyData.eqv (.tuple [_, _]) (.str y) = _
    simp [PyData.eqv]
  | .r x, .l y => by
    show PyData.eqv (.str x) (.tuple [_, _]) = _
    simp [PyData.eqv]
  | .r x, .r y => by
    show PyData.eqv (.str x) (.str y) = _
    simp only [PyData.eqv]
    rw [PySem.W.beq_decide]
    exact decide_eq_decide.mpr (by rw [Un.r.injEq])⟩
/-! ### is None -/
class NN (a : Type) [Py a] : Prop where
  nn : ∀ x : a, Py.toD x ≠ .none
instance : NN Int := ⟨fun _ h => nomatch h⟩
instance : NN Bool := ⟨fun _ h => nomatch h⟩
instance : NN Str := ⟨fun _ h => nomatch h⟩
instance : NN Sm := ⟨fun x h => by cases x <;> exact nomatch (show PyData.tuple _ = .none from h)⟩
section
variable {a b c d : Type} [Py a] [Py b] [Py c] [Py d]
instance : NN (List a) := ⟨fun _ h => nomatch (show PyData.list _ = .none from h)⟩
instance : NN (a × b) := ⟨fun _ h => nomatch (show PyData.tuple _ = .none from h)⟩
instance : NN (T3 a b c) := ⟨fun _ h => nomatch (show PyData.tuple _ = .none from h)⟩
instance : NN (T4 a b c d) := ⟨fun _ h => nomatch (show PyData.tuple _ = .none from h)⟩
instance : NN (Tp a) := ⟨fun _ h => nomatch (show PyData.tuple _ = .none from h)⟩
theorem rep_non {F : Hp} {x : PyData} (h : Rep F .non x) : x = .none := by cases h; rfl
theorem isN_opt [NN a] {F : Hp} {v : V} {o : Option a} (h : R F v o) : decide (v = .non) = o.isNone := by
  cases o with
  | none =>
    rw [R.non_ h]
    rfl
  | some x =>
    have h : Rep F v (Py.toD x) := h
    refine decide_eq_false fun e => ?_
    rw [e] at h
    exact NN.nn x (rep_non h)
end
theorem dNon_t : decide (V.non = V.non) = true := decide_eq_true rfl
theorem dNon_f {p : Addr} : decide (V.ref p = V.non) = false := decide_eq_false fun h => nomatch h
/-! ### lists: insert, extend, all -/
def insL {a : Type} (xs : List a) (i : Int) (y : a) : List a := xs.take i.toNat ++ [y] ++ xs.drop i.toNat
theorem RL.ins {a : Type} [Py a] {F : Hp} {vs : List V} {xs : List a} (h : RL F vs xs) (i : Int) {v : V} {y : a} (hy : R F v y) : RL F (insL vs i v) (insL xs i y) := RL.app (RL.app (h.take _) (RL.cons hy RL.nil)) (h.drop _)
def CIns (n : Nat) (i : Int) : Prop := n < 16777216 ∧ 0 ≤ i ∧ i < 2 ^ 63
instance (n : Nat) (i : Int) : Decidable (CIns n i) := by unfold CIns; infer_instance
instance (i j : Int) : Decidable (CPow i j) := by unfold CPow; infer_instance
section
variable {X : Cx} {K : PySem.W.Frag}
theorem cr_allK (hc : X.calm = true) (h : X.K = K) : CallR X (.builtin "all") (rAll K) := by rw [← h]; exact cr_all hc
theorem cr_anyK (hc : X.calm = true) (h : X.K = K) : CallR X (.builtin "any") (rAny K) := by rw [← h]; exact cr_any hc
/-- len of what is read -/
def rLenS (K : PySem.W.Frag) : List V → Hp → VK → Prop := fun vs H Q => ∃ (a : Addr) (xs : List V), vs = [V.ref a] ∧ SqL K H a xs ∧ Q (.int xs.length) H
theorem call_lenS (h : X.K = K) : CallR X (.builtin "len") (rLenS K) := fun pins s σ H xs us Q I r hq => by
  obtain ⟨a, ys, rfl, hs, q⟩ := hq
  subst h
  exact call_len pins s σ H _ us Q I r ⟨.ref a, ys.length, rfl, .inl ⟨ys, hs, rfl⟩, q⟩
end
/-! ### try whose suite binds a name: what follows is handed on as the suite's result -/
def tryF {a : Type} (L : List String) (m : M (Unit → M a)) (k1 : String → M a) : M a := match m with
  | .ok f => f ()
  | .error .bad => bad
  | .error (.exc n) => if n ∈ L then k1 n else bad
theorem wp_tryF {b : Type} {L : List String} {m : M (Unit → M b)} {k1 : String → M b} {Q : b → Prop} {E : String → Prop} (h : wp (tryF L m k1) Q E) : wp m (fun f => wp (f ()) Q E) fun n => n ∈ L ∧ wp (k1 n) Q E := by
  cases m with
  | ok x => exact h
  | error e =>
    cases e with
    | bad => exact h
    | exc n =>
      by_cases z : n ∈ L
      · have e : tryF L (.error (.exc n)) k1 = k1 n := if_pos z
        rw [e] at h
        exact ⟨z, h⟩
      · have e : tryF L (.error (.exc n)) k1 = bad := if_neg z
        rw [e] at h
        exact h.elim
/-! ### xs[::-1]; a, b, c = a list of three -/
section
variable {X : Cx} {K : PySem.W.Frag}
theorem pe_revLK (h : X.K = K) {e : Expr} {te : TE} {k : Nat} {p1 p2 p3 pos : Pos} (he : PE X e te) : PE X (.Subscript e (.Slice none none (some (.UnaryOp .USub (.Constant (.int 1) k p1) p2)) p3) pos) (tRevL K te) := by rw [← h]; exact pe_revL he
end
def two3 {a : Type} (xs : List a) : M (a × a × a) := match xs with
  | [x, y, z] => .ok (x, y, z)
  | _ => bad
theorem wp_two3 {a b : Type} {Q : a → Prop} {E : String → Prop} {xs : List b} {k : b × b × b → M a} (h : wp (two3 xs >>= k) Q E) : ∃ x y z, xs = [x, y, z] ∧ wp (k (x, y, z)) Q E := by
  match xs, h with
  | [x, y, z], h => exact ⟨x, y, z, rfl, h⟩
  | [], h => exact h.elim
  | [_], h => exact h.elim
  | [_, _], h => exact h.elim
  | _ :: _ :: _ :: _ :: _, h => exact h.elim
section
variable {X : Cx} {K : PySem.W.Frag}
theorem bmK (h : X.K = K) {c : Expr} {T : String} {r : V → List V → Hp → VK → Prop} {to : TE} {t : TA} (hp : PE X c (tBM X.K T r to t)) : PE X c (tBM K T r to t) := by rw [← h]; exact hp
theorem bm0K (h : X.K = K) {c : Expr} {T : String} {r : V → List V → Hp → VK → Prop} {to : TE} (hp : PE X c (tBM0 X.K T r to)) : PE X c (tBM0 K T r to) := by rw [← h]; exact hp
end
end PG

set_option Elab.async false
set_option linter.all false
set_option maxRecDepth 100000
set_option maxHeartbeats 4000000
namespace PG
open PySem PySem.Spec PyProof.Rows L2
open PySem.W (T3 T4 Datum DatumOrd Holds HoldAll EachIs)
variable {K0 : PySem.W.Frag} [KF K0]
/-! ### lists of our lists: handed back, lent -/
section
variable {Z : Ent} {F F0 H H0 : Hp} {S cs cs0 : List (Addr × HO)} {p : Addr} {ps : List LCV}
theorem llC_nt : ∀ c ∈ llC p ps, noTup c.2 = true := fun c hc => by
  rcases List.mem_cons.mp hc with e | hc
  · rw [e]; rfl
  · obtain ⟨d, _, e⟩ := List.mem_map.mp hc
    rw [← e]; rfl
theorem Ow.llOut (O : Ow Z F (S ++ llC p ps) H) (hp : Z.H p = none) (hz : ∀ c ∈ ps, Z.H c.1 = none) :
    (∀ c ∈ llC p ps, Z.H c.1 = none) ∧ (∀ c ∈ llC p ps, F c.1 = none ∧ H c.1 = some c.2) ∧ ((llC p ps).map (·.1)).Nodup := by
  refine ⟨fun c hc => ?_, fun c hc => ⟨O.cf c (List.mem_append_right _ hc), O.ch c (List.mem_append_right _ hc)⟩, ?_⟩
  · rcases List.mem_cons.mp hc with e | hc
    · rw [e]; exact hp
    · obtain ⟨d, hd, e⟩ := List.mem_map.mp hc
      rw [← e]; exact hz d hd
  · have := O.nd
    rw [List.map_append] at this
    exact (List.nodup_append.mp this).2.1
theorem Ow.llGot (O0 : Ow Z F0 cs0 H0) (O : Ow Z F cs H) (hk : cs.map (·.1) = cs0.map (·.1)) (hn : ∀ c ∈ llC p ps, H0 c.1 = none) (hf : ∀ c ∈ llC p ps, F c.1 = none ∧ H c.1 = some c.2) (nd : ((llC p ps).map (·.1)).Nodup) :
    Ow Z F (cs ++ llC p ps) H where
  g := O.g
  cf := fun c hc => by
    rcases List.mem_append.mp hc with hc | hc
    · exact O.cf c hc
    · exact (hf c hc).1
  ch := fun c hc => by
    rcases List.mem_append.mp hc with hc | hc
    · exact O.ch c hc
    · exact (hf c hc).2
  nd := by
    rw [List.map_append]
    refine List.nodup_append.mpr ⟨O.nd, nd, fun x hx y hy e => ?_⟩
    obtain ⟨d, hd, e2⟩ := List.mem_map.mp hy
    rw [hk] at hx
    obtain ⟨c0, hc0, e3⟩ := List.mem_map.mp hx
    have h1 := O0.ch c0 hc0
    rw [e3, e, ← e2, hn d hd] at h1
    exact nomatch h1
  ca := fun c hc => by
    rcases List.mem_append.mp hc with hc | hc
    · exact O.ca c hc
    · exact .inr (O0.was (hn c hc))
  nt := fun c hc => by
    rcases List.mem_append.mp hc with hc | hc
    · exact O.nt c hc
    · exact llC_nt c hc
theorem Ow.llWas (O0 : Ow Z F0 cs0 H0) (hn : ∀ c ∈ llC p ps, H0 c.1 = none) : Z.H p = none ∧ ∀ c ∈ ps, Z.H c.1 = none :=
  ⟨O0.was (hn (p, _) List.mem_cons_self), fun c hc => O0.was (hn (lcV c) (List.mem_cons_of_mem _ (List.mem_map.mpr ⟨c, hc, rfl⟩)))⟩
theorem inA_ll : ∀ b ∈ (llC p ps).map (·.1), ∃ o, (b, o) ∈ S ++ llC p ps := fun b hb => by
  obtain ⟨c, hc, e⟩ := List.mem_map.mp hb
  exact ⟨c.2, List.mem_append_right _ (by rw [← e]; exact hc)⟩
theorem inA_app {as bs : List Addr} (h1 : ∀ b ∈ as, ∃ o, (b, o) ∈ cs) (h2 : ∀ b ∈ bs, ∃ o, (b, o) ∈ cs) : ∀ b ∈ as ++ bs, ∃ o, (b, o) ∈ cs := fun b hb => by
  rcases List.mem_append.mp hb with hb | hb
  · exact h1 b hb
  · exact h2 b hb
theorem LLR.of_at {a : Type} [Py a] : ∀ {ps : List LCV} {xs : List (List a)}, LLR F ps xs → (∀ c ∈ ps, F c.1 = some (.lst c.2)) → RL F (ps.map fun c => V.ref c.1) xs
  | [], xs, h, _ => by cases h; exact RL.nil
  | c :: ps, xs, h, hat => by
    cases h with
    | cons h1 h2 => exact RL.cons (R.lst (hat c List.mem_cons_self) h1) (LLR.of_at h2 fun d hd => hat d (List.mem_cons_of_mem _ hd))
theorem Ow.llLend {a : Type} [Py a] {as : List Addr} {xs : List (List a)} (O : Ow Z F (S ++ llC p ps) H) (hs : Same F (lendF as F H)) (hin : ∀ c ∈ llC p ps, c.1 ∈ as) (r : LLR F ps xs) : R (lendF as F H) (.ref p) xs := by
  have at_ : ∀ c ∈ llC p ps, lendF as F H c.1 = some c.2 := fun c hc => (lendF_at (hin c hc)).trans (O.ch c (List.mem_append_right _ hc))
  exact R.lst (at_ (p, _) List.mem_cons_self) ((r.mono hs).of_at fun c hc => at_ (lcV c) (List.mem_cons_of_mem _ (List.mem_map.mpr ⟨c, hc, rfl⟩)))
end
/-! ### rows that are never reached -/
def tNever : TS := fun _ _ _ => False
def eNever : TE := fun _ _ _ => False
def uNever : TT := fun _ _ _ => False
theorem psNever {X : Cx} {st : Stmt} : PS X st tNever := ⟨fun _ _ _ _ _ _ h => h.elim⟩
theorem peNever {X : Cx} {e : Expr} : PE X e eNever := ⟨fun _ _ _ _ _ _ h => h.elim⟩
theorem ptNever {X : Cx} {e : Expr} : PT X e uNever := ⟨fun _ _ _ _ _ _ h => h.elim⟩
theorem pwNever {X : Cx} {e : Expr} : PW X e uNever := ⟨fun _ _ _ _ _ _ _ h => h.elim⟩
/-! ### lists in which nothing is None -/
def some1 {a : Type} (xs : List (Option a)) : Option (List a) := xs.mapM id
def some2 {a : Type} (xs : List (List (Option a))) : Option (List (List a)) := xs.mapM some1
section
variable {a : Type} [Py a] {F : Hp} {v : V}
theorem mapM_cons_some {b c : Type} {f : b → Option c} {x : b} {xs : List b} {ys : List c} (h : (x :: xs).mapM f = some ys) : ∃ y zs, f x = some y ∧ xs.mapM f = some zs ∧ ys = y :: zs := by
  rw [List.mapM_cons] at h
  cases e : f x with
  | none => rw [e] at h; exact nomatch h
  | some y =>
    rw [e] at h
    cases e2 : xs.mapM f with
    | none =>
      have h : ((xs.mapM f) >>= fun bs => pure (y :: bs)) = some ys := h
      rw [e2] at h; exact nomatch h
    | some zs =>
      have h : ((xs.mapM f) >>= fun bs => pure (y :: bs)) = some ys := h
      rw [e2] at h
      exact ⟨y, zs, rfl, rfl, (Option.some.inj h).symm⟩
theorem mapM_nil_some {b c : Type} {f : b → Option c} {ys : List c} (h : ([] : List b).mapM f = some ys) : ys = [] := (Option.some.inj h).symm
theorem RL.some1 : ∀ {xs : List (Option a)} {vs : List V} {ys : List a}, RL F vs xs → xs.mapM id = some ys → RL F vs ys
  | [], vs, ys, h, e => by
    rw [mapM_nil_some e, RL.nil_ h]
    exact RL.nil
  | x :: xs, vs, ys, h, e => by
    obtain ⟨w, ws, rfl, h1, h2⟩ := RL.cons_ h
    obtain ⟨y, zs, e1, e2, e3⟩ := mapM_cons_some e
    rw [e3]
    have e1 : x = some y := e1
    rw [e1] at h1
    exact RL.cons (R.jst_ h1) (RL.some1 h2 e2)
theorem R.some1 {xs : List (Option a)} {ys : List a} (h : R F v xs) (e : PG.some1 xs = some ys) : R F v ys := by
  obtain ⟨p, vs, rfl, hp, hr⟩ := R.lst_ h
  exact R.lst hp (RL.some1 hr e)
theorem RL.some2 : ∀ {xs : List (List (Option a))} {vs : List V} {ys : List (List a)}, RL F vs xs → xs.mapM PG.some1 = some ys → RL F vs ys
  | [], vs, ys, h, e => by
    rw [mapM_nil_some e, RL.nil_ h]
    exact RL.nil
  | x :: xs, vs, ys, h, e => by
    obtain ⟨w, ws, rfl, h1, h2⟩ := RL.cons_ h
    obtain ⟨y, zs, e1, e2, e3⟩ := mapM_cons_some e
    rw [e3]
    exact RL.cons (R.some1 h1 e1) (RL.some2 h2 e2)
theorem R.some2 {xs : List (List (Option a))} {ys : List (List a)} (h : R F v xs) (e : PG.some2 xs = some ys) : R F v ys := by
  obtain ⟨p, vs, rfl, hp, hr⟩ := R.lst_ h
  exact R.lst hp (RL.some2 hr e)
end
/-! ### products one factor of which is small -/
def CMulX (i j : Int) : Prop := CMul i j ∨ CMulW i j
instance (i j : Int) : Decidable (CMulX i j) := by unfold CMulX CMul CMulW; infer_instance
theorem op_mulX {X : Cx} : OpR X (binaryOp .Mult) (rI CMulX fun i j => .int (i * j)) := opI fun _ _ _ _ _ _ _ hc q => mul_int q (by
  rcases hc with h | h
  · exact h.ok
  · exact h.ok)
end PG

set_option Elab.async false
set_option linter.all false
set_option maxRecDepth 100000
set_option maxHeartbeats 4000000
namespace PG
open PySem PySem.Spec PyProof.Rows L2
open PySem.W (T3 T4 Datum DatumOrd Holds HoldAll EachIs)
variable {K0 : PySem.W.Frag} [KF K0]
/-! ### an except clause whose suite asks of the exception: it is tracked within the suite -/
section
variable {X : Cx} {pins pn pn' : List (Addr × Obj)} {σ : L2.St} {H : Hp} {s : Shared} {a : Addr} {q : Addr × Obj}
theorem lessPin (I : L2.Inv (X.suite a (q :: pn)) pn' σ H s) (ok : X.Ok) : L2.Inv (X.suite a pn) pn' σ H s :=
  ⟨ok.suite _ _, I.os, I.bare, I.base, I.loc, I.cell, I.free, I.freeC, fun p hp => I.pin p (List.mem_cons_of_mem _ hp), I.hok, I.len⟩
theorem unsuite0 (I : L2.Inv (X.suite a (X.pn ++ pins)) [] σ H s) (ok : X.Ok) : L2.Inv X pins σ H s :=
  ⟨ok, I.os, I.bare, I.base, I.loc, I.cell, I.free, I.freeC, fun p hp => I.pin p (List.mem_append_left _ hp), I.hok, I.len⟩
end
/-- what such a clause wishes -/
def wTell (K : PySem.W.Frag) (c : Value) (i : Nat) (ts : Addr → TS) (out : WX) (D : Ends) : WX := fun cls d σ H =>
  ∃ b, PySem.W.exmOne K cls c = some b ∧ (b = true → ∀ a, H a = none → ts a { nx := fun σ' H' => D.nx (σ'.set i none) H', rt := fun _ _ => False, bk := fun _ _ => False, ct := fun _ _ => False } (σ.set i (some (.ref a))) (upd H a (excO cls d a))) ∧ (b = false → out cls d σ H)
section
variable {X : Cx} {x n : Str} {c : Value} {i : Nat} {body suite : List Stmt} {b1 : Stmt} {np q1 q2 : Pos} {tb : WX → TS} {ts : Addr → TS} {out : WX}
theorem ps_try_tell (hs : X.stack = X.env :: X.outer) (hf : X.env.frame = some X.env.locals) (hex : X.ex = []) (hN : X.N.Nodup) (hi : X.N[i]? = some n) (hl : X.env.kindOf n = some .local) (hc : Names X x c) (tk : Takes X out)
    (hb : ∀ (W : WX) (pn : List (Addr × Obj)) (xe : Value → Shared → Prop), Takes (X.tr pn xe) W → PassesOwn (model X.prog X.w) X.A X.env xe → PSs (X.tr pn xe) body (tb W))
    (hsu : ∀ (a : Addr) (pn : List (Addr × Obj)), PSs (X.suite a pn) (b1 :: suite) (ts a)) :
    PS X (.Try body [.ExceptHandler (some (.Name x np)) (some n) (b1 :: suite) q1] [] [] q2) (fun D σ H => tb (wTell X.K c i ts out D) D σ H) := by
  refine ⟨fun pins s σ H D I wish => wpAny_Try_except ?_⟩
  have ok := I.ok
  have hfr : X.A.frames = some (X.env :: X.outer) := ok.frames.trans (by rw [hs])
  have run := (hb (wTell X.K c i ts out D) (X.pn ++ pins) (fun e g1 => wpAny (model X.prog X.w) X.A (noteFrame e X.env) (fun _ g2 => wpAny (model X.prog X.w) X.A (setFlight e none)
    (fun _ g3 => wpAny (model X.prog X.w) X.A (handleBy e X.env [.ExceptHandler (some (.Name x np)) (some n) (b1 :: suite) q1]) (SP X pins D) X.xe g3) X.xe g2) X.xe g1)
    (fun u g ⟨a, B, sI, ps, τ, G, cls, d, eu, J0, nb, up, sky, na, eos, ag, b, hb1, yes, no⟩ => by
      subst eu
      have J : L2.Inv X pins τ G sI := J0.ofTry ok
      show wpAny (model X.prog X.w) X.A (noteFrame (.ref a) X.env) _ _ _
      refine Sky.land Zc.steady hfr hf (show Sky B (X.env :: X.outer) a (Zc cls d) X.env.locals g.heap by rw [← hs]; exact sky) fun k1 fl1 up1 => ?_
      have J1 : L2.Inv X pins τ G { g with heap := k1 } := J.landed nb fl1.1 (up.trans up1) eos ag
      obtain ⟨o1, vs1, ho1, hz1, hd1⟩ := fl1.there
      have off : a ∉ frs (X.env :: X.outer) := fun hm => by
        obtain ⟨_, o', eo, hnf⟩ := fl1.2.2.1.mem hm
        rw [ho1] at eo
        cases eo
        exact hnf _ hd1
      have nL : a ≠ X.env.locals := fun z => off (List.mem_filterMap.mpr ⟨X.env, List.mem_cons_self, by rw [hf, z]⟩)
      have nF : a ∉ X.fs := fun hm => by
        obtain ⟨e, he, q⟩ := List.mem_filterMap.mp hm
        exact off (List.mem_filterMap.mpr ⟨e, List.mem_cons_of_mem _ he, q⟩)
      have young : ∀ o, sI.heap.get? a ≠ some o := fun o q => by
        have z := nb a o q (by rw [hs]; exact off)
        rw [fl1.2.1] at z
        exact nomatch z
      have h0 : X.s_0.heap.get? a = none := by
        cases q : X.s_0.heap.get? a with
        | none => rfl
        | some o =>
          obtain ⟨o', z⟩ := J.base.there a o q (by rw [hex]; exact fun z => nomatch z)
          exact (young _ z).elim
      have offp : ∀ p ∈ X.pn ++ pins, p.1 ≠ a := fun p hp z => young p.2 (by rw [← z]; exact (J.pin p hp).1)
      have S1 := J1.suite ho1 hd1 na nL nF
      refine wpAny_handleBy_cons (codeAny_handlers_test ?_) (fun q => nomatch q)
      have look : PySem.W.Looks (model X.prog X.w) k1 (typeOf (.ref a)) cls := fun _ _ _ _ k q => wpAny_typeOf_ref (k _ _ ho1) (by rw [hz1.1]; exact q)
      have match_ := PySem.W.exm_one (M := model X.prog X.w) J1.kIn look hb1
      have named : ∀ {Q : Value → Shared → Prop} {E : Value → Shared → Prop}, Q c { g with heap := k1 } → wpAny (model X.prog X.w) (X.A.mark (some (.ref a))) (eval (.Name x np) X.env) Q E { g with heap := k1 } := fun {Q E} q => by
        obtain ⟨hg, hdbg, hm | ⟨hm, hv, hnn⟩⟩ := hc
        · exact ld_glob (X := X.suite a ((a, o1) :: (X.pn ++ pins))) S1 hg hm q hdbg
        · exact ld_blt (X := X.suite a ((a, o1) :: (X.pn ++ pins))) S1 hg hm hv q hnn hdbg
      refine named (match_.here ?_)
      cases b with
      | true =>
        refine codeAny_handlers_suite_as (HandSPX.lands_againZ fl1 fun k2 fl2 up2 => ?_)
        have J2 : L2.Inv X pins τ G { g with heap := k2 } := J.landed nb fl2.1 ((up.trans up1).trans up2) eos ag
        obtain ⟨o2, vs2, ho2, hz2, hd2⟩ := fl2.there
        refine store_ok (X := X.suite a ((a, o2) :: (X.pn ++ pins))) (v := .ref a) (J2.suite ho2 hd2 na nL nF) hN hi (.inl hl) rfl (fun g5 S5 => ?_) (.inr hl)
        obtain ⟨hget5, _⟩ := S5.pin (a, o2) (List.mem_append_left _ List.mem_cons_self)
        have A5 := adopt (X := X.suite a (X.pn ++ pins)) (lessPin S5 ok) na ⟨o2, vs2, hget5, hz2, hd2⟩ h0 nL (fun p hp => offp p (by rw [List.append_nil] at hp; exact hp))
        refine wpAny_mono ((hsu a (X.pn ++ pins)).run [] g5 _ _ _ A5 (yes rfl a na)) (fun f g6 hsp => ?_) (fun _ _ z => z.elim)
        cases f with
        | next =>
          obtain ⟨τ6, G6, S6, q6⟩ := hsp
          exact gone_ok (X := X.suite a (X.pn ++ pins)) S6 hN hi hl fun g7 S7 => ⟨_, _, unsuite0 S7 ok, q6⟩
        | brk => obtain ⟨_, _, _, q6⟩ := hsp; exact q6.elim
        | cont => obtain ⟨_, _, _, q6⟩ := hsp; exact q6.elim
        | ret u => obtain ⟨_, _, _, _, _, q6⟩ := hsp; exact q6.elim
      | false =>
        refine wpAny_handleBy_nil ?_
        obtain ⟨_, _, _, o3, vs3, T, oT, ts3, he, hz, hd, h1, hr⟩ := id fl1
        unfold PySem.passOn
        refine wpAny_bind (wpAny_field he hd h1 ?_)
        rw [if_neg (by simp : ¬ ((Value.ref T == Value.none) = true))]
        have up_ : wpAny (model X.prog X.w) X.A (setFlight (.ref a) X.env.frame) (fun _ g4 => wpAny (model X.prog X.w) X.A (throw (.ref a) : Sem Flow) (SP X pins D) X.xe g4) X.xe { g with heap := k1 } := by
          rw [hf]
          exact HandSPX.setFlight_upZ fl1 fun k2 fl2 up2 => wpAny_throw (tk _ _ ⟨a, B, sI, pins, τ, G, cls, d, rfl, J, nb, (up.trans up1).trans up2, .inr (.inr (by rw [hs]; exact fl2)), na, eos, ag, no rfl⟩)
        first
          | exact wpAny_bind up_
          | exact wpAny_bind (wpAny_pure (wpAny_bind up_)))
    PassesOwn.looking).run [] s σ H D (I.toTry _) wish
  refine wpAny_mono run (fun f g hsp => ?_) (fun _ _ z => z)
  cases f with
  | next => obtain ⟨τ, G, J, q⟩ := hsp; exact wpAny_execs_nil ⟨τ, G, J.ofTry ok, q⟩
  | brk => obtain ⟨τ, G, J, q⟩ := hsp; exact ⟨τ, G, J.ofTry ok, q⟩
  | cont => obtain ⟨τ, G, J, q⟩ := hsp; exact ⟨τ, G, J.ofTry ok, q⟩
  | ret u => obtain ⟨v, τ, G, J, r, q⟩ := hsp; exact ⟨v, τ, G, J.ofTry ok, r, q⟩
end
end PG

set_option Elab.async false
set_option linter.all false
set_option maxRecDepth 100000
set_option maxHeartbeats 4000000
namespace PG
open PySem PySem.Spec PyProof.Rows L2
open PySem.W (T3 T4 Datum DatumOrd Holds HoldAll EachIs)
variable {K0 : PySem.W.Frag} [KF K0]
/-! ### xs.remove(y) of a list of data, y in it -/
/-- where y stands in xs -/
def ixL {a : Type} [DecidableEq a] (xs : List a) (y : a) : Nat := xs.idxOf y
def remL {a : Type} [DecidableEq a] (xs : List a) (y : a) : List a := xs.take (ixL xs y) ++ xs.drop (ixL xs y + 1)
section
variable {a : Type} [Py a] [DecidableEq a] [Datum a] [IsD a]
theorem RL.rem {F : Hp} {vs : List V} {xs : List a} (h : RL F vs xs) (y : a) : RL F (vs.take (ixL xs y) ++ vs.drop (ixL xs y + 1)) (remL xs y) := RL.app (h.take _) (h.drop _)
omit [Py a] [IsD a] in
theorem place_of : ∀ {xs : List a} {y : a}, y ∈ xs → SeqAt.dataPlace (xs.map Datum.toD) (Datum.toD y) = some (xs.idxOf y)
  | [], _, h => nomatch h
  | x :: xs, y, h => by
    unfold SeqAt.dataPlace
    rw [List.map_cons, List.findIdx?_cons, Datum.eqv, List.idxOf_cons]
    by_cases c : x = y
    · rw [if_pos (decide_eq_true c)]
      rw [show (x == y) = true from by rw [c]; exact beq_self_eq_true y]
      rfl
    · rw [if_neg (fun z => c (of_decide_eq_true z))]
      rw [show (x == y) = false from beq_eq_false_iff_ne.mpr c]
      have hm : y ∈ xs := by
        rcases List.mem_cons.mp h with e | e
        · exact (c e.symm).elim
        · exact e
      have ih := place_of hm
      unfold SeqAt.dataPlace at ih
      rw [ih]
      rfl
end
def rRemT (a : Type) [Py a] [DecidableEq a] : V → List V → Hp → VK → Prop := fun x xs H Q => ∃ (l : Addr) (vs : List V) (ys : List a) (y : V) (p : a), x = .ref l ∧ xs = [y] ∧ H l = some (.lst vs) ∧ RL H vs ys ∧ R H y p ∧ p ∈ ys ∧ Q .non (upd H l (.lst (vs.take (ixL ys p) ++ vs.drop (ixL ys p + 1))))
section
variable {X : Cx} (a : Type) [Py a] [DecidableEq a] [Datum a] [IsD a]
theorem mt_removeT (hu : X.A.units + 64 < cLine) (hd : Datum.depth a ≤ 60 := by decide) (hK : X.K = K0 := by rfl) : MtR X "list.remove" (rRemT a) := by
  subst hK
  intro pins s σ H x xs v us Q I rx rxs h
  obtain ⟨l, vs, ys, y, p, rfl, rfl, hH, hl, hp, hm, q⟩ := h
  cases rx
  obtain ⟨u, rfl, ru⟩ := rxs.one
  obtain ⟨z, its, n, r, hlen, e⟩ := I.lstM hH
  obtain ⟨as, rs⟩ := hl.holds I r
  obtain ⟨bs, rx⟩ := hp.holds I ru
  refine SeqAt.remove_list_data (vs := its.toArray) ⟨_, e, rfl, n, rfl⟩ (by simpa using rs) rx (PySem.W.plainAll_map ys) (Datum.plain p) (PySem.W.room_items (PySem.W.depthAll_map ys) (by omega)) (place_of hm) (by rw [List.size_toArray]; omega) ?_
  refine ⟨.non, _, I.lset (its' := its.take (ixL ys p) ++ its.drop (ixL ys p + 1)) hH e ?_ ((r.take _).append (r.drop _)) ?_, rfl, q⟩
  · show its.toArray.eraseIdxIfInBounds (ixL ys p) = _
    rw [List.eraseIdxIfInBounds_toArray, List.eraseIdx_eq_take_drop_succ]
  · rw [List.length_append, List.length_take, List.length_drop]
    omega
end
/-! ### a list seen as one of options -/
theorem RL.somes {a : Type} [Py a] {F : Hp} : ∀ {xs : List a} {vs : List V}, RL F vs xs → RL F vs (xs.map some)
  | [], vs, h => by
    rw [RL.nil_ h]
    exact RL.nil
  | x :: xs, vs, h => by
    obtain ⟨w, ws, rfl, h1, h2⟩ := RL.cons_ h
    exact RL.cons (R.jst h1) (RL.somes h2)
/-! ### range(hi, lo, -1) -/
def rangeD (hi lo : Int) : List Int := (List.range (hi - lo).toNat).map fun (i : Nat) => hi + (i : Int) * (-(1 : Int))
theorem rangeD_len {hi lo : Int} : (rangeD hi lo).length = (hi - lo).toNat := by
  unfold rangeD
  rw [List.length_map, List.length_range]
theorem rangeD_get {hi lo : Int} {i : Nat} (h : i < (hi - lo).toNat) : (rangeD hi lo).drop i = (hi + (i : Int) * (-(1 : Int))) :: (rangeD hi lo).drop (i + 1) := by
  apply drop_at
  unfold rangeD
  rw [List.getElem?_map, List.getElem?_range h]
  rfl
theorem rangeD_end {hi lo : Int} : (rangeD hi lo).drop (hi - lo).toNat = [] := List.drop_eq_nil_of_le (by rw [rangeD_len]; exact Nat.le_refl _)
end PG

set_option Elab.async false
set_option linter.all false
set_option maxRecDepth 100000
set_option maxHeartbeats 4000000
namespace PG
open PySem PySem.Spec PyProof.Rows L2
open PySem.W (T3 T4 Datum DatumOrd Holds HoldAll EachIs)
variable {K0 : PySem.W.Frag} [KF K0]
/-! ### for k in d, keys pairs of whole numbers -/
theorem rd_got {κ K' β : Type} [DK κ K'] [Py β] {F : Hp} {kvs : List (K' × V)} {xs : List (κ × β)} (h : RD F kvs xs) : ∀ {i : Nat} {k : K'} {v : V}, kvs[i]? = some (k, v) → ∃ (y : κ) (b : β), xs[i]? = some (y, b) ∧ k = DK.kk y := by
  induction h with
  | nil =>
    intro i k v e
    simp at e
  | @cons k0 v0 y0 kvs xs h t ih =>
    intro i k v e
    cases i with
    | zero =>
      have e := Option.some.inj e
      injection e with e1 e2
      exact ⟨k0, y0, rfl, e1.symm⟩
    | succ i => exact ih (i := i) (by simpa using e)
theorem keys_at {κ β : Type} {xs : List (κ × β)} {i : Nat} {y : κ} {b : β} (e : xs[i]? = some (y, b)) : (List.map (fun x => x.1) xs)[i]? = some y := by rw [List.getElem?_map, e]; rfl
theorem one_tup {H : Hp} {q : Addr} {xs : List V} (h : H q = some (.tup xs)) : ∀ b ∈ [q], ∃ xs, H b = some (.tup xs) := fun b hb => by rw [List.mem_singleton.mp hb]; exact ⟨_, h⟩
theorem key_R {F H : Hp} {q : Addr} {k : List Key} {y : Int × Int} (e : k = DK.kk y) (h : H q = some (.tup (k.map kV))) (hb : ∀ b ∈ [q], F b = H b) : R F (.ref q) y := by
  rw [e] at h
  have h2 : F q = some (.tup [.int y.1, .int y.2]) := (hb q (List.mem_singleton.mpr rfl)).trans h
  exact R.t2 h2 R.int R.int
theorem rd_klen {κ K' β : Type} [DK κ K'] [Py β] {F : Hp} {kvs : List (K' × V)} {xs : List (κ × β)} (h : RD F kvs xs) : kvs.length = (List.map (fun x => x.1) xs).length := by rw [List.length_map]; exact h.len
theorem drop_endK {a b : Type} {ys : List a} {xs : List b} (h : ys.length = xs.length) : xs.drop ys.length = [] := List.drop_eq_nil_of_le (by omega)
/-! ### the state told anew behind a name's binding (else Lean's unifier walks through all bindings again) -/
def gNameN (i : Nat) : TG := fun v σ H Q => ∃ σ' : L2.St, σ' = σ.set i (some v) ∧ Q σ' H
theorem gNameN_eq (i : Nat) : gNameN i = gName i := by
  funext v σ H Q
  exact propext ⟨fun ⟨_, e, q⟩ => by subst e; exact q, fun q => ⟨_, rfl, q⟩⟩
theorem ps_toN {X : Cx} {st : Stmt} {te : TE} {i : Nat} (h : PS X st (tAsg te (gName i))) : PS X st (tAsg te (gNameN i)) := by
  rw [gNameN_eq]
  exact h
theorem to_dec {p : Prop} (i j : Decidable p) : @decide p i = @decide p j := by cases i <;> cases j <;> first | rfl | contradiction
/-! ### tuple(xs) of two, t[:2] of three -/
def twoL {a : Type} : List a → Option (a × a)
  | [x, y] => some (x, y)
  | _ => none
theorem RL.tw {a : Type} [Py a] {F : Hp} {vs : List V} {xs : List a} {y : a × a} (h : RL F vs xs) (e : twoL xs = some y) : ∃ v w, vs = [v, w] ∧ R F v y.1 ∧ R F w y.2 := by
  match xs, e with
  | [x1, x2], e =>
    have e := Option.some.inj e
    subst e
    obtain ⟨v, ws, rfl, h1, h2⟩ := RL.cons_ h
    obtain ⟨w, ws, rfl, h3, h4⟩ := RL.cons_ h2
    have := RL.nil_ h4
    subst this
    exact ⟨v, w, rfl, h1, h3⟩
theorem sl32 (a b c : V) : ¬ (HT.sIx [a, b, c].length 0 none = 0 ∧ HT.sIx [a, b, c].length [a, b, c].length (some (2 : Int)) = [a, b, c].length) := fun h => absurd h.2 (by show ¬ (2 : Nat) = 3; decide)
/-! ### d.get(k) -/
section
variable {β : Type} {H : Hp} {a b : Addr}
theorem dgo_T {kvs : List (List Key × V)} {i j : Int} (e : Rd H a (.dT kvs)) (eb : H b = some (.tup [.int i, .int j])) : DGet H a (.ref b) (valV kvs (DK.kk (i, j))) := dgt (k := [.inl i, .inl j]) e eb
theorem dgo_I {kvs : List (Key × V)} {i : Int} (e : Rd H a (.dK kvs)) : DGet H a (.int i) (valV kvs (DK.kk i)) := dgk (k := .inl i) e
theorem dgo_S {kvs : List (Key × V)} {i : Str} (e : Rd H a (.dK kvs)) : DGet H a (.str i) (valV kvs (DK.kk i)) := dgk (k := .inr i) e
end
theorem dget1 {κ K' β : Type} [DK κ K'] [DecidableEq κ] [DecidableEq K'] [Py β] {F : Hp} {kvs : List (K' × V)} {xs : List (κ × β)} (h : RD F kvs xs) (k : κ) : ∃ v, (valV kvs (DK.kk k)).getD .non = v ∧ R F v (dGet xs k) := by
  rcases h.get k with ⟨a, b⟩ | ⟨y, v, a, b, c⟩
  · rw [a, b]; exact ⟨_, rfl, R.non⟩
  · rw [a, b]; exact ⟨_, rfl, R.jst c⟩
theorem dget1J {κ K' β : Type} [DK κ K'] [DecidableEq κ] [DecidableEq K'] [Py β] {F : Hp} {kvs : List (K' × V)} {xs : List (κ × Option β)} (h : RD F kvs xs) (k : κ) : ∃ v, (valV kvs (DK.kk k)).getD .non = v ∧ R F v ((dGet xs k).join) := by
  rcases h.get k with ⟨a, b⟩ | ⟨y, v, a, b, c⟩
  · rw [a, b]; exact ⟨_, rfl, R.non⟩
  · rw [a, b]; exact ⟨_, rfl, c⟩
/-! ### t[::-1] of a pair -/
section
variable {prog : Program} {w : World} {A : Around} {E : Value → Shared → Prop} {s : Shared}
theorem pair_back {t sl : Addr} {u1 u2 vs : Value} {Q : Value → Shared → Prop} (ht : IsTup s.heap t #[u1, u2]) (hs : s.heap.IsSliceOf sl .none .none vs) (ps : IsPart vs (some (-1)))
    (h : Q (.ref s.heap.objs.size) { s with heap := s.heap.push { cls := .type "tuple", data := .seq #[u2, u1] } }) : wpAny (model prog w) A (getItem (.ref t) (.ref sl)) Q E s := by
  obtain ⟨os, hos, hcs, hds⟩ := id hs
  have hTs : s.TypeIs (.ref sl) "slice" := ⟨os, hos, hcs⟩
  unfold getItem
  try with_reducible refine wpAny_holding ?_
  first | refine wpAny_bind (wpAny_pure ?_) | skip
  refine wpAny_bind (wpAny_sequenceKey ht.typeIs (by decide) ?_)
  refine wpAny_bind (wpAny_callSpecial?_slot (name := Str.ofString "__getitem__") ht.typeIs PyProof.Rows.slot_tuple_getitem
    (wpAny_call_entry PyProof.Rows.slot_tuple_getitem ht.typeIs PyProof.Rows.entry_tuple_getitem ?_ (PyProof.Rows.args_tuple_getitem _ _)))
  show wpAny _ _ (Builtin.Tuple.tupleItemsOf (.ref t) >>= _) _ _ s
  refine wpAny_bind (tupleItemsOf_ ht ?_)
  refine wpAny_bind (wpAny_typeOf hTs ?_)
  rw [if_pos (by decide)]
  have hp : ∀ {A : Around} {Q : Option Int → Shared → Prop} {s : Shared}, Q (some (-1)) s → wpAny (model prog w) A (Builtin.Slice.slicePartIndex vs) Q E s := by
    intro A Q s hq
    cases ps with
    | int i t => exact slicePart_int hq
  have key : ∀ {A : Around} {Q : Int × Int × Nat → Shared → Prop}, Q (1, -1, 2) s → wpAny (model prog w) A (Builtin.Slice.sliceApplied (.ref sl) (pure (2 : Int))) Q E s := by
    intro A Q hq
    unfold Builtin.Slice.sliceApplied Builtin.Slice.sliceFields
    refine wpAny_bind (wpAny_bind (wpAny_field hos hds (x := .none) rfl (wpAny_bind (wpAny_field hos hds (x := .none) rfl (wpAny_bind (wpAny_field hos hds (x := vs) rfl (wpAny_pure ?_)))))))
    refine wpAny_bind (hp ?_)
    show wpAny _ _ (if ((-1 : Int) == 0) = true then _ else _) _ _ s
    rw [if_neg (by decide)]
    refine wpAny_bind (slicePart_none (wpAny_bind (slicePart_none (wpAny_bind (wpAny_pure ?_)))))
    exact wpAny_pure hq
  refine wpAny_bind (key ?_)
  show wpAny _ _ (if (((1 : Int) == 0 && (-1 : Int) == 1 && (2 : Nat) == 2) = true) then _ else _) _ _ s
  rw [if_neg (by decide)]
  first
    | exact wpAny_bind (m := Builtin.Tuple.tupleExact _) (wpAny_newObj_type (wpAny_pure ⟨_, rfl, wpAny_pure h⟩) (by show (2 : Nat) ≤ sizeLine; decide))
    | exact wpAny_bind (m := Builtin.Tuple.tupleExact _) (wpAny_newObj_type (wpAny_bind (wpAny_pure (wpAny_pure ⟨_, rfl, wpAny_pure h⟩))) (by show (2 : Nat) ≤ sizeLine; decide))
    | exact wpAny_bind (wpAny_bind (m := Builtin.Tuple.tupleExact _) (wpAny_newObj_type (wpAny_pure (wpAny_pure ⟨_, rfl, wpAny_pure h⟩)) (by show (2 : Nat) ≤ sizeLine; decide)))
end
def tRevT2 (K : PySem.W.Frag) (te : TE) : TE := fun σ H Q => te σ H fun x H1 => ∃ a v1 v2, x = .ref a ∧ SqT K H1 a [v1, v2] ∧ ∀ p, H1 p = none → Q (.ref p) (upd H1 p (.tup [v2, v1]))
theorem pe_revT2 {X : Cx} {K : PySem.W.Frag} (hK : X.K = K) {e : Expr} {te : TE} {k : Nat} {p1 p2 p3 pos : Pos} (he : PE X e te) : PE X (.Subscript e (.Slice none none (some (.UnaryOp .USub (.Constant (.int 1) k p1) p2)) p3) pos) (tRevT2 K te) := by
  subst hK
  constructor
  intro pins s σ H Q I hw
  refine Subscript_ (thn (he.run pins s σ H _ I hw) ?_)
  rintro v s1 ⟨x, H1, I1, r1, a, v1, v2, rfl, hx, q⟩
  cases r1
  have hst : PO X (some (.UnaryOp .USub (.Constant (.int 1) k p1) p2)) (tPart (tUn (rU fun i => .int (-i)) (tC (.int 1)))) := po_some (pe_un un_neg pe_int)
  refine wpAny_Slice (thn (po_none.run pins s1 σ H1 (fun o H2 => o = none ∧ H2 = H1) I1 ⟨rfl, rfl⟩) ?_)
  rintro vl s2 ⟨l, H2, I2, pl, rfl, rfl⟩
  refine thn (po_none.run pins s2 σ H2 (fun o H3 => o = none ∧ H3 = H2) I2 ⟨rfl, rfl⟩) ?_
  rintro vu s3 ⟨u, H3, I3, pu, rfl, rfl⟩
  refine thn (hst.run pins s3 σ H3 (fun o H4 => o = some (-1) ∧ H4 = H3) I3 ⟨1, rfl, -1, rfl, rfl, rfl⟩) ?_
  rintro vs s4 ⟨o, H4, I4, ps, rfl, rfl⟩
  cases pl
  cases pu
  have I5 : Inv X pins σ H4 { s4 with heap := s4.heap.push { cls := .type "slice", data := .fields #[.none, .none, vs] } } := I4.kept (t' := s4.toks) fun b ob q => Heap.get?_push_of_some _ q
  obtain ⟨its, r, ht, hz⟩ := I5.tuple hx
  obtain ⟨w1, w2, rfl, m1, m2⟩ : ∃ w1 w2, its = [w1, w2] ∧ RelV v1 w1 ∧ RelV v2 w2 := by
    cases r with
    | cons a b =>
      cases b with
      | cons c d =>
        cases d
        exact ⟨_, _, rfl, a, c⟩
  show wpAny (model X.prog X.w) X.A (subscriptTail e (.Slice none none (some (.UnaryOp .USub (.Constant (.int 1) k p1) p2)) p3) (.ref a) (.ref s4.heap.objs.size)) (EP X pins σ Q) X.xe { s4 with heap := s4.heap.push { cls := .type "slice", data := .fields #[.none, .none, vs] } }
  refine tail_any (ops := [.ref a, .ref s4.heap.objs.size]) ht.typeIs (PyProof.Rows.slot_tuple_getitem.lookup) ?_ (by with_unfolding_all rfl)
  refine pair_back ht (Heap.IsSliceOf.new _ .none .none vs) ps ?_
  refine ⟨.ref _, _, I5.laid (t' := s4.toks) (o := .tup [v2, v1]) (fun b ob q => Heap.get?_push_of_some _ q) (Nat.le_refl _) ?_, rfl, q _ (I5.hok.fresh (Nat.le_refl _))⟩
  exact ⟨by show (2 : Nat) ≤ sizeLine; decide, _, .cons m2 (.cons m1 .nil), IsTup.new _ _⟩
/-! ### reversed(xs) -/
theorem lc_rev {K : PySem.W.Frag} {a : Addr} {xs : List V} {g : TG} {tt : TT} {te : TE} {vs : List Nat} {σ : L2.St} {H1 : Hp} {D : Addr} {Qd : Hp → Prop} (Pv : Nat → Hp → Prop) (h0 : Pv 0 (upd H1 D (.lst []))) (hl : ∀ i H, i ≤ xs.length → Pv i H → SqL K H a xs)
    (hs : ∀ i x H, xs.reverse[i]? = some x → Pv i H → g x (wipe σ vs) H fun σ2 H2 => wipe σ2 vs = wipe σ vs ∧ tt σ2 H2 fun b H3 =>
      if b = true then te σ2 H3 fun y H4 => ∃ acc, H4 D = some (.lst acc) ∧ acc.length < sizeLine ∧ Pv (i + 1) (upd H4 D (.lst (acc ++ [y]))) else Pv (i + 1) H3) (hd : ∀ H, Pv xs.length H → Qd H) :
    ∃ W : Nat → Nat → Hp → Prop, (∃ m, W 0 m (upd H1 D (.lst []))) ∧ ∀ i m H, W i m H →
      ((Itv K a xs.length).stop i H ∧ Qd H) ∨ ((Itv K a xs.length).go i H ∧ ∃ Nx : Hp → Prop, (∀ H', Nx H' → ∃ m', m' < m ∧ W (i + 1) m' H') ∧ ∀ x H', (Itv K a xs.length).yld i H x H' → g x (wipe σ vs) H' fun σ2 H2 => wipe σ2 vs = wipe σ vs ∧ tt σ2 H2 fun b H3 =>
        if b = true then te σ2 H3 fun y H4 => ∃ acc, H4 D = some (.lst acc) ∧ acc.length < sizeLine ∧ Nx (upd H4 D (.lst (acc ++ [y]))) else Nx H3) :=
  lc_it walk_rev Pv h0 hl (fun i x H H' hi p y => by obtain ⟨rfl, e⟩ := y; exact hs i x _ (by rw [List.getElem?_reverse hi]; exact e) p) hd
theorem piRevK {X : Cx} {K : PySem.W.Frag} {tg e : Expr} {ta : TA} (h : X.K = K) (hp : PI X tg e (iRev X.K ta)) : PI X tg e (iRev K ta) := by rw [← h]; exact hp
theorem rev_len {a : Type} [Py a] {F : Hp} {vs : List V} {xs : List a} (h : RL F vs xs) : vs.length = xs.reverse.length := by rw [List.length_reverse]; exact h.len
theorem atI_ix {a : Type} {xs : List a} {i : Int} {x : a} (e : L2.atI xs i = some x) : ∃ n, ixN xs.length i = some n ∧ xs[n]? = some x := by
  unfold L2.atI at e
  cases h : ixN xs.length i with
  | none => rw [h] at e; exact nomatch e
  | some n => rw [h] at e; exact ⟨n, rfl, e⟩
/-! ### rows that stand alone: a list of pairs of a branch and a list of its own, one of which is changed -/
def SepP (Z F : Hp) (ws : List V) : Prop := ∃ qs : List (Addr × V × Addr × List V), ws = qs.map (fun q => V.ref q.1) ∧
  (∀ q ∈ qs, F q.1 = some (.tup [q.2.1, .ref q.2.2.1]) ∧ F q.2.2.1 = some (.lst q.2.2.2) ∧ Z q.2.2.1 = none) ∧ (qs.map fun q => q.2.2.1).Nodup
def SepA (Z F : Hp) (p : Addr) : Prop := ∃ ws, F p = some (.lst ws) ∧ SepP Z F ws
theorem SepP.nil {Z F : Hp} : SepP Z F [] := ⟨[], rfl, fun _ h => (nomatch h), List.nodup_nil⟩
theorem SepP.mono {Z F F' : Hp} {ws : List V} (h : SepP Z F ws) (S : Same F F') : SepP Z F' ws := by
  obtain ⟨qs, e, k, nd⟩ := h
  exact ⟨qs, e, fun q hq => ⟨S _ _ (k q hq).1, S _ _ (k q hq).2.1, (k q hq).2.2⟩, nd⟩
theorem SepA.mono {Z F F' : Hp} {p : Addr} (h : SepA Z F p) (S : Same F F') : SepA Z F' p := by
  obtain ⟨ws, e, k⟩ := h
  exact ⟨ws, S _ _ e, k.mono S⟩
theorem SepP.snoc {Z F F' : Hp} {ws us : List V} {q r : Addr} {b : V} (h : SepP Z F ws) (S : Same F F') (hf : F r = none) (hz : Z r = none) (ht : F' q = some (.tup [b, .ref r])) (hr : F' r = some (.lst us)) : SepP Z F' (ws ++ [.ref q]) := by
  obtain ⟨qs, e, k, nd⟩ := h
  refine ⟨qs ++ [(q, b, r, us)], by rw [e, List.map_append]; rfl, fun x hx => ?_, ?_⟩
  · rcases List.mem_append.mp hx with hx | hx
    · exact ⟨S _ _ (k x hx).1, S _ _ (k x hx).2.1, (k x hx).2.2⟩
    · rw [List.mem_singleton.mp hx]; exact ⟨ht, hr, hz⟩
  · rw [List.map_append, List.nodup_append]
    refine ⟨nd, by simp, fun x hx y hy z => ?_⟩
    obtain ⟨w, hw, rfl⟩ := List.mem_map.mp hx
    have hy : y = r := by simpa using hy
    have := (k w hw).2.1
    rw [z, hy, hf] at this
    exact nomatch this
theorem RL.pt {a : Type} [Py a] {F : Hp} : ∀ {ws : List V} {xs : List a}, ws.length = xs.length → (∀ (m : Nat) (w : V) (x : a), ws[m]? = some w → xs[m]? = some x → R F w x) → RL F ws xs
  | [], [], _, _ => RL.nil
  | [], _ :: _, e, _ => by simp at e
  | _ :: _, [], e, _ => by simp at e
  | w :: ws, x :: xs, e, h => RL.cons (h 0 w x rfl rfl) (RL.pt (by simpa using e) fun m w x a b => h (m + 1) w x a b)
theorem sep_put {Z : Ent} {F H : Hp} (O : Ow Z F [] H) (P0 : Same Z.F Z.H) {pa q r : Addr} {b : V} {ws us : List V} {xs : List ((Int × Int) × List Int)} {row : List Int} {y : Int × Int} {n j : Nat} {v : Int}
    (hS : SepA Z.H F pa) (hpa : F pa = some (.lst ws)) (hl : RL F ws xs) (e : ws[n]? = some (.ref q)) (hq : F q = some (.tup [b, .ref r])) (hr : F r = some (.lst us)) (hb : R F b y) (hus : RL F us row) :
    ∃ F', Ow Z F' [] (upd H r (.lst (us.set j (.int v)))) ∧ Same Z.F F' ∧ R F' (.ref pa) (xs.set n (y, row.set j v)) := by
  obtain ⟨ws', e1, qs, e2, k, nd⟩ := hS
  rw [hpa] at e1
  have e1 : ws = ws' := by injection e1 with e1; injection e1
  subst e1
  have at_ : ∀ {m : Nat} {w : V}, ws[m]? = some w → ∃ x, qs[m]? = some x ∧ w = .ref x.1 := fun {m w} h => by
    rw [e2, List.getElem?_map] at h
    cases h2 : qs[m]? with
    | none => rw [h2] at h; exact nomatch h
    | some x => rw [h2] at h; exact ⟨x, rfl, (Option.some.inj h).symm⟩
  obtain ⟨x0, hx0, ex0⟩ := at_ e
  have kx := k x0 (List.mem_of_getElem? hx0)
  have eq0 : q = x0.1 := by injection ex0
  subst eq0
  rw [hq] at kx
  have two : ∀ {b b' : V} {r r' : Addr}, (some (HO.tup [b, .ref r]) : Option HO) = some (.tup [b', .ref r']) → r = r' := fun h => by
    injection h with h
    injection h with h
    injection h with _ h
    injection h with h
    injection h
  have er : r = x0.2.2.1 := two kx.1
  have hz : Z.H r = none := by rw [er]; exact kx.2.2
  have hzf : Z.F r = none := by
    cases h : Z.F r with
    | none => rfl
    | some o => rw [P0 _ _ h] at hz; exact nomatch hz
  have hus' := RL.ints hus
  refine ⟨upd F r (.lst (us.set j (.int v))), ⟨⟨fun c u h => ?_, Same.upd2 O.g.s, fun c u hc h => ?_, fun c h => ?_, fun c h => ?_, fun c z h => ?_⟩, fun _ h => (nomatch h), fun _ h => (nomatch h), List.nodup_nil, fun _ h => (nomatch h), fun _ h => nomatch h⟩, fun c u h => ?_, ?_⟩
  · rw [upd_ne (fun z => by subst z; rw [hzf] at h; exact nomatch h)]
    exact O.g.f _ _ h
  · rw [upd_ne (fun z => by subst z; rw [hz] at h; exact nomatch h)]
    exact O.g.k _ _ hc h
  · by_cases z : c = r
    · subst z; rw [upd_same]; exact fun z => nomatch z
    · rw [upd_ne z]; exact O.g.t _ h
  · rw [upd_ne (fun z => by subst z; exact h hz)]
    exact O.g.n _ h
  · by_cases w : c = r
    · subst w; rw [upd_same] at h; exact nomatch h
    · rw [upd_ne w] at h; exact O.g.u _ _ h
  · rw [upd_ne (fun z => by subst z; rw [hzf] at h; exact nomatch h)]
    exact O.g.f _ _ h
  · have tp : ∀ (c : Addr) (z : List V), F c = some (.tup z) → upd F r (.lst (us.set j (.int v))) c = some (.tup z) := fun c z h => by
      rw [upd_ne (fun w => by subst w; rw [hr] at h; exact nomatch h)]
      exact h
    have hpr : pa ≠ r := fun z => by
      subst z
      rw [hpa] at hr
      have hr : ws = us := by injection hr with hr; injection hr
      rw [hr, hus', List.getElem?_map] at e
      cases h2 : row[n]? with
      | none => rw [h2] at e; exact nomatch e
      | some x => rw [h2] at e; exact nomatch e
    refine R.lst (by rw [upd_ne hpr]; exact hpa) (RL.pt (by rw [List.length_set]; exact hl.len) fun m w x h1 h2 => ?_)
    by_cases c : n = m
    · subst c
      have hn : n < xs.length := by
        rw [← hl.len]
        exact (List.getElem?_eq_some_iff.mp h1).1
      rw [List.getElem?_set_self hn] at h2
      rw [e] at h1
      cases h1
      cases h2
      refine R.t2 (tp _ _ hq) (NoL.mv _ _ tp _ _ hb) ?_
      refine R.lst upd_same ?_
      rw [hus']
      have := RL.of_ints (H := upd F r (.lst (us.set j (.int v)))) (xs := row.set j v)
      rw [List.map_set] at this
      rw [hus'] at this
      exact this
    · rw [List.getElem?_set_ne c] at h2
      obtain ⟨w', hw', rw'⟩ := hl.get h2
      rw [h1] at hw'
      cases hw'
      obtain ⟨q1, b1, v1, e3, hq1, hb1, hv1⟩ := R.t2_ rw'
      subst e3
      obtain ⟨r1, us1, e4, hr1, hu1⟩ := R.lst_ hv1
      subst e4
      obtain ⟨x1, hx1, ex1⟩ := at_ h1
      have k1 := k x1 (List.mem_of_getElem? hx1)
      have eq1 : q1 = x1.1 := by injection ex1
      subst eq1
      rw [hq1] at k1
      have er1 : r1 = x1.2.2.1 := two k1.1
      have hne : r1 ≠ r := fun z => by
        have g1 : (qs.map fun q => q.2.2.1)[n]? = some r := by rw [List.getElem?_map, hx0, er]; rfl
        have g2 : (qs.map fun q => q.2.2.1)[m]? = some r := by rw [List.getElem?_map, hx1, ← z, er1]; rfl
        exact c (nd_ix nd g1 g2)
      refine R.t2 (tp _ _ hq1) (NoL.mv _ _ tp _ _ hb1) (R.lst (by rw [upd_ne hne]; exact hr1) ?_)
      rw [RL.ints hu1]
      exact RL.of_ints
/-! ### d.setdefault(k, z), d.get(k, z) -/
def dSetd {κ β : Type} [DecidableEq κ] (xs : List (κ × β)) (k : κ) (z : β) : List (κ × β) := match dGet xs k with
  | some _ => xs
  | none => dPut xs k z
def setdD {κ β : Type} [DecidableEq κ] (xs : List (κ × β)) (k : κ) (z : β) : M (β × List (κ × β)) := if xs.length < 16777216 then .ok ((dGet xs k).getD z, dSetd xs k z) else bad
theorem wp_setdD {κ β a : Type} [DecidableEq κ] {Q : a → Prop} {E : String → Prop} {xs : List (κ × β)} {j : κ} {y : β} {k : β × List (κ × β) → M a} (h : wp (setdD xs j y >>= k) Q E) : xs.length < sizeLine ∧ wp (k ((dGet xs j).getD y, dSetd xs j y)) Q E := by
  unfold setdD at h
  by_cases hl : xs.length < 16777216
  · rw [if_pos hl] at h
    exact ⟨lt_line hl, h⟩
  · rw [if_neg hl] at h
    exact h.elim
section
variable {κ K' β : Type} [DK κ K'] [DecidableEq κ] [DecidableEq K'] [Py β] {F : Hp} {kvs : List (K' × V)} {xs : List (κ × β)}
theorem setd_ok (h : RD F kvs xs) (k : κ) {vz : V} {z : β} (hz : R F vz z) : ∃ v' kvs', RD F kvs' (dSetd xs k z) ∧ R F v' ((dGet xs k).getD z) ∧ (valV kvs (DK.kk k) = none → v' = vz ∧ kvs' = putK kvs (DK.kk k) vz) ∧ (∀ u, valV kvs (DK.kk k) = some u → v' = u ∧ kvs' = kvs) := by
  unfold dSetd
  rcases h.get k with ⟨a, b⟩ | ⟨y, v, a, b, c⟩
  · rw [a, b]; exact ⟨vz, _, h.put k hz, hz, fun _ => ⟨rfl, rfl⟩, fun u e => nomatch e⟩
  · rw [a, b]; exact ⟨v, kvs, h, c, fun e => (nomatch e), fun u e => ⟨Option.some.inj e, rfl⟩⟩
theorem dgetD_any (h : RD F kvs xs) (k : κ) {vz : V} {z : β} (hz : R F vz z) : ∃ v, (valV kvs (DK.kk k)).getD vz = v ∧ R F v ((dGet xs k).getD z) := by
  rcases h.get k with ⟨a, b⟩ | ⟨y, v, a, b, c⟩
  · rw [a, b]; exact ⟨_, rfl, hz⟩
  · rw [a, b]; exact ⟨_, rfl, c⟩
end
def tDSetdX (td ty tx : TE) : TE := fun σ H Q => td σ H fun x H1 => ∃ a, x = .ref a ∧ L2.IsD H1 a ∧ ty σ H1 fun y H2 => tx σ H2 fun z H3 => ∃ (kvs : List (Key × V)) (k : Key) (v' : V) (kvs' : List (Key × V)), H3 a = some (.dK kvs) ∧ y = kV k ∧ kvs.length < sizeLine ∧
  (valV kvs k = none → v' = z ∧ kvs' = putK kvs k z) ∧ (∀ u, valV kvs k = some u → v' = u ∧ kvs' = kvs) ∧ Q v' (upd H3 a (.dK kvs'))
theorem pe_dsetdX {X : Cx} {o e f : Expr} {td ty tx : TE} {apos cpos : Pos} (ho : PE X o td) (he : PE X e ty) (hf : PE X f tx) (m : M2 X o "setdefault" apos e f cpos) : PE X (.Call (.Attribute o "setdefault" apos) [e, f] [] cpos) (tDSetdX td ty tx) := by
  refine ⟨fun pins s σ H Q I h => ?_⟩
  refine wpAny_Call_method m.base m.few m.line PySem.F.plainAttrs_dict PySem.F.slot_dict_setdefault PySem.F.type_dict_setdefault (thn (ho.run pins s σ H _ I h) fun u s1 ⟨x, H1, I1, rx, a, ex, d, q1⟩ => ?_)
  subst ex
  obtain rfl : u = Value.ref a := rx
  obtain ⟨t1, t2, _⟩ := isD_at I1 d
  refine ⟨t1, t2, ?_⟩
  rw [m.trees]
  refine Calls.callWith_builtin rfl (Calls.evalArgs_plain (Calls.spliced_cons (thn (he.run pins s1 σ H1 _ I1 q1) fun iv s2 ⟨y, H2, I2, ry, q2⟩ =>
    Calls.spliced_cons (thn (hf.run pins s2 σ H2 _ I2 q2) fun fv s3 ⟨z, H3, I3, rz, kvs, k, v', kvs', ea, ey, hl, q3, q4, q5⟩ => Calls.spliced_nil ?_))))
  subst ey
  refine d_setd I3 ea ry rz hl (fun v hv w' s4 I4 rw' => ?_) fun hn w' s4 I4 rw' => ?_
  · obtain ⟨e1, e2⟩ := q4 v hv
    rw [e1, e2] at q5
    have eH : upd H3 a (.dK kvs) = H3 := by
      funext b
      by_cases c : b = a
      · subst c; rw [upd_same, ea]
      · rw [upd_ne c]
    rw [eH] at q5
    exact ⟨v, _, I4, rw', q5⟩
  · obtain ⟨e1, e2⟩ := q3 hn
    rw [e1, e2] at q5
    exact ⟨z, _, I4, rw', q5⟩
/-! ### an option of a whole number is told of any heap -/
theorem R.oi_mv {F F' : Hp} {v : V} {x : Option Int} (h : R F v x) : R F' v x := by
  cases x with
  | none => rw [R.non_ h]; exact R.non
  | some i => rw [R.int_ (R.jst_ h)]; exact R.jst R.int
end PG

set_option Elab.async false
set_option linter.all false
set_option maxRecDepth 100000
set_option maxHeartbeats 4000000
/-! Plain mathematics over the monad M: no program in sight. -/
namespace PG
open PySem L2
open PySem.W (T3 T4 Datum DatumOrd)
section
variable {a b s i : Type}
theorem ok_b (x : a) (k : a → M b) : (Except.ok x >>= k) = k x := rfl
theorem okP_b (x : a) (k : a → M b) : ((Except.ok x : M a) >>= k) = k x := rfl
theorem ret_b (x : a) (k : a → M b) : (ret x >>= k) = k x := rfl
theorem chk_ok {c : Prop} [Decidable c] (h : c) : chk c = .ok () := by unfold chk; rw [if_pos h]
theorem chk_b {c : Prop} [Decidable c] (h : c) (k : Unit → M b) : (chk c >>= k) = k () := by rw [chk_ok h]; rfl
theorem opt_b {o : Option a} {x : a} (h : o = some x) (k : a → M b) : (opt o >>= k) = k x := by rw [h]; rfl
theorem bind_ok {m : M a} {x : a} (h : m = .ok x) (k : a → M b) : (m >>= k) = k x := by rw [h]; rfl
theorem appL_ok {xs : List a} {y : a} (h : xs.length < 16777216) : appL xs y = .ok (xs ++ [y]) := by unfold appL; rw [if_pos h]
theorem ixN_nat {n : Nat} {j : Int} (h0 : 0 ≤ j) (h : j < n) : ixN n j = some j.toNat := by unfold ixN; rw [if_pos h0, if_pos h]
theorem atI_of {xs : List a} {j : Int} {x : a} (h0 : 0 ≤ j) (h : xs[j.toNat]? = some x) : L2.atI xs j = some x := by
  have hl := (List.getElem?_eq_some_iff.mp h).1
  unfold L2.atI
  rw [ixN_nat h0 (by omega)]
  exact h
theorem atI_some {xs : List a} {j : Int} (h0 : 0 ≤ j) (h : j < xs.length) : ∃ x, L2.atI xs j = some x ∧ xs[j.toNat]? = some x := by
  have hl : j.toNat < xs.length := by omega
  exact ⟨xs[j.toNat], atI_of h0 (List.getElem?_eq_getElem hl), List.getElem?_eq_getElem hl⟩
theorem setI_ok {xs : List a} {j : Int} {y : a} (h0 : 0 ≤ j) (h : j < xs.length) : setI xs j y = .ok (xs.set j.toNat y) := by unfold setI; rw [ixN_nat h0 h]
theorem popI_ok {xs : List a} {j : Int} {y : a} (h0 : 0 ≤ j) (h : xs[j.toNat]? = some y) (hl : xs.length < 16777216) : popI xs j = .ok (y, xs.eraseIdx j.toNat) := by
  have h1 := (List.getElem?_eq_some_iff.mp h).1
  unfold popI
  rw [if_pos hl, ixN_nat h0 (by omega)]
  show (match xs[j.toNat]? with
    | some y => (Except.ok (y, xs.eraseIdx j.toNat) : M _)
    | none => bad) = _
  rw [h]
/-- loops by an invariant over the items gone through -/
theorem loopN_inv {f : i → s → M s} (P : List i → s → Prop) : ∀ {xs pre : List i} {x : s}, P pre x → (∀ pre y ys x, xs ++ [] = xs → P pre x → (∃ q, q ++ y :: ys = pre ++ y :: ys) → ∃ x', f y x = .ok x' ∧ P (pre ++ [y]) x') → ∃ x', loopN f xs x = .ok x' ∧ P (pre ++ xs) x' := by
  intro xs
  induction xs with
  | nil => intro pre x h _; exact ⟨x, rfl, by rw [List.append_nil]; exact h⟩
  | cons y ys ih =>
    intro pre x h hs
    obtain ⟨x1, e1, h1⟩ := hs pre y ys x (List.append_nil _) h ⟨pre, rfl⟩
    obtain ⟨x2, e2, h2⟩ := ih (pre := pre ++ [y]) h1 fun pre y ys x _ hp hq => hs pre y ys x (List.append_nil _) hp hq
    refine ⟨x2, ?_, by rw [List.append_assoc] at h2; exact h2⟩
    show (f y x >>= fun x' => loopN f ys x') = _
    rw [e1]
    exact e2
/-- .. with what is known of the items -/
theorem loopN_run {f : i → s → M s} {all : List i} (P : List i → s → Prop) {x : s} (h : P [] x) (hs : ∀ pre y post x, all = pre ++ y :: post → P pre x → ∃ x', f y x = .ok x' ∧ P (pre ++ [y]) x') : ∃ x', loopN f all x = .ok x' ∧ P all x' := by
  have go : ∀ (xs pre : List i) (x : s), all = pre ++ xs → P pre x → ∃ x', loopN f xs x = .ok x' ∧ P (pre ++ xs) x' := by
    intro xs
    induction xs with
    | nil => intro pre x _ h; exact ⟨x, rfl, by rw [List.append_nil]; exact h⟩
    | cons y ys ih =>
      intro pre x e h
      obtain ⟨x1, e1, h1⟩ := hs pre y ys x e h
      obtain ⟨x2, e2, h2⟩ := ih (pre ++ [y]) x1 (by rw [List.append_assoc]; exact e) h1
      refine ⟨x2, ?_, by rw [List.append_assoc] at h2; exact h2⟩
      show (f y x >>= fun x' => loopN f ys x') = _
      rw [e1]
      exact e2
  exact go all [] x rfl h
/-- a loop that goes on at each item -/
theorem loopM_run {r : Type} {f : i → s → M (Fl s r)} {all : List i} (P : List i → s → Prop) {x : s} (h : P [] x) (hs : ∀ pre y post x, all = pre ++ y :: post → P pre x → ∃ x', f y x = .ok (.nx x') ∧ P (pre ++ [y]) x') : ∃ x', loopM f all x = .ok (.nx x') ∧ P all x' := by
  have go : ∀ (xs pre : List i) (x : s), all = pre ++ xs → P pre x → ∃ x', loopM f xs x = .ok (.nx x') ∧ P (pre ++ xs) x' := by
    intro xs
    induction xs with
    | nil => intro pre x _ h; exact ⟨x, rfl, by rw [List.append_nil]; exact h⟩
    | cons y ys ih =>
      intro pre x e h
      obtain ⟨x1, e1, h1⟩ := hs pre y ys x e h
      obtain ⟨x2, e2, h2⟩ := ih (pre ++ [y]) x1 (by rw [List.append_assoc]; exact e) h1
      refine ⟨x2, ?_, by rw [List.append_assoc] at h2; exact h2⟩
      show (f y x >>= fun q => match q with
        | .nx x' => loopM f ys x'
        | .rt z => .ok (.rt z)) = _
      rw [e1]
      exact e2
  exact go all [] x rfl h
/-- .. that has no state -/
theorem loopM_all {r : Type} {f : i → Unit → M (Fl Unit r)} {all : List i} (hs : ∀ y ∈ all, f y () = .ok (.nx ())) : loopM f all () = .ok (.nx ()) := by
  obtain ⟨x, e, _⟩ := loopM_run (f := f) (all := all) (fun _ _ => True) (x := ()) trivial fun pre y post x e _ => ⟨(), by cases x; exact hs y (by rw [e]; simp), trivial⟩
  exact e
theorem compX_run {c : Type} {f : i → s → M (Option c × s)} {all : List i} (P : List i → List c → s → Prop) {x : s} (h : P [] [] x)
    (hs : ∀ pre y post acc x, all = pre ++ y :: post → P pre acc x → ∃ o x', f y x = .ok (o, x') ∧ P (pre ++ [y]) (match o with
      | some z => acc ++ [z]
      | none => acc) x') : ∃ acc x', compX f all [] x = .ok (acc, x') ∧ P all acc x' := by
  have go : ∀ (xs pre : List i) (acc : List c) (x : s), all = pre ++ xs → P pre acc x → ∃ acc' x', compX f xs acc x = .ok (acc', x') ∧ P (pre ++ xs) acc' x' := by
    intro xs
    induction xs with
    | nil => intro pre acc x _ h; exact ⟨acc, x, rfl, by rw [List.append_nil]; exact h⟩
    | cons y ys ih =>
      intro pre acc x e h
      obtain ⟨o, x1, e1, h1⟩ := hs pre y ys acc x e h
      obtain ⟨acc2, x2, e2, h2⟩ := ih (pre ++ [y]) _ x1 (by rw [List.append_assoc]; exact e) h1
      refine ⟨acc2, x2, ?_, by rw [List.append_assoc] at h2; exact h2⟩
      show (nox (f y x) >>= fun p => compX f ys (match p.1 with
        | some z => acc ++ [z]
        | none => acc) p.2) = _
      rw [e1]
      exact e2
  exact go all [] [] x rfl h
theorem compS_run {c : Type} {f : i → s → M (Option c × s)} {all : List i} (hl : all.length < 16777216) (P : List i → List c → s → Prop) {x : s} (h : P [] [] x)
    (hs : ∀ pre y post acc x, all = pre ++ y :: post → P pre acc x → ∃ o x', f y x = .ok (o, x') ∧ P (pre ++ [y]) (match o with
      | some z => acc ++ [z]
      | none => acc) x') : ∃ acc x', compS f all x = .ok (acc, x') ∧ P all acc x' := by
  unfold compS
  rw [chk_b hl]
  exact compX_run P h hs
/-- a plain map with a test -/
theorem compS_pure {c : Type} {f : i → Unit → M (Option c × Unit)} {all : List i} (g : i → Option c) (hl : all.length < 16777216) (hs : ∀ y ∈ all, f y () = .ok (g y, ())) : compS f all () = .ok (all.filterMap g, ()) := by
  obtain ⟨acc, x, e, h⟩ := compS_run (f := f) (all := all) hl (fun pre acc _ => acc = pre.filterMap g) (x := ()) rfl fun pre y post acc x e h => by
    refine ⟨g y, (), by cases x; exact hs y (by rw [e]; simp), ?_⟩
    rw [h, List.filterMap_append]
    cases e2 : g y with
    | none => simp [e2]
    | some z => simp [e2]
  rw [e, h]
end

/-! ### sorted lists -/
section
variable {a : Type}
/-- two sorted lists of the same things are one -/
theorem perm_sorted_eq {le : a → a → Bool} (anti : ∀ x y, le x y = true → le y x = true → x = y) : ∀ {xs ys : List a}, xs.Perm ys → xs.Pairwise (fun x y => le x y = true) → ys.Pairwise (fun x y => le x y = true) → xs = ys := by
  intro xs
  induction xs with
  | nil => intro ys h _ _; exact (List.nil_perm.mp h).symm
  | cons x xs ih =>
    intro ys h hx hy
    cases ys with
    | nil => exact absurd h.length_eq (by simp)
    | cons y ys =>
      rw [List.pairwise_cons] at hx hy
      have e : x = y := by
        have m1 : x ∈ y :: ys := h.mem_iff.mp List.mem_cons_self
        have m2 : y ∈ x :: xs := h.mem_iff.mpr List.mem_cons_self
        rcases List.mem_cons.mp m1 with r | r
        · exact r
        · rcases List.mem_cons.mp m2 with q | q
          · exact q.symm
          · exact anti x y (hx.1 y q) (hy.1 x r)
      subst e
      rw [ih (List.Perm.cons_inv h) hx.2 hy.2]
class LeOk (a : Type) [DecidableEq a] [DatumOrd a] : Prop where
  tr : ∀ x y z : a, leT x y = true → leT y z = true → leT x z = true
  tot : ∀ x y : a, (leT x y || leT y x) = true
  anti : ∀ x y : a, leT x y = true → leT y x = true → x = y
theorem leT_int (x y : Int) : leT x y = decide (x ≤ y) := by
  show (!decide (y < x)) = decide (x ≤ y)
  by_cases h : y < x
  · have : ¬ x ≤ y := by omega
    simp [h, this]
  · have : x ≤ y := by omega
    simp [h, this]
instance : LeOk Int where
  tr x y z h1 h2 := by
    rw [leT_int, decide_eq_true_eq] at h1 h2 ⊢
    omega
  tot x y := by
    rw [leT_int, leT_int, Bool.or_eq_true, decide_eq_true_eq, decide_eq_true_eq]
    omega
  anti x y h1 h2 := by
    rw [leT_int, decide_eq_true_eq] at h1 h2
    omega
theorem leT_p (x y : Int × Int) : leT x y = decide (x.1 < y.1 ∨ (x.1 = y.1 ∧ x.2 ≤ y.2)) := by
  show (!(if y.1 = x.1 then decide (y.2 < x.2) else decide (y.1 < x.1))) = _
  by_cases h : y.1 = x.1
  · rw [if_pos h]
    by_cases h2 : y.2 < x.2
    · have : ¬ (x.1 < y.1 ∨ (x.1 = y.1 ∧ x.2 ≤ y.2)) := by omega
      simp [h2, this]
    · have : (x.1 < y.1 ∨ (x.1 = y.1 ∧ x.2 ≤ y.2)) := by omega
      simp [h2, this]
  · rw [if_neg h]
    by_cases h2 : y.1 < x.1
    · have : ¬ (x.1 < y.1 ∨ (x.1 = y.1 ∧ x.2 ≤ y.2)) := by omega
      simp [h2, this]
    · have : (x.1 < y.1 ∨ (x.1 = y.1 ∧ x.2 ≤ y.2)) := by omega
      simp [h2, this]
instance : LeOk (Int × Int) where
  tr x y z h1 h2 := by
    rw [leT_p, decide_eq_true_eq] at h1 h2 ⊢
    omega
  tot x y := by
    rw [leT_p, leT_p, Bool.or_eq_true, decide_eq_true_eq, decide_eq_true_eq]
    omega
  anti x y h1 h2 := by
    rw [leT_p, decide_eq_true_eq] at h1 h2
    exact Prod.ext (by omega) (by omega)
theorem leT_3 (x y : T3 Int Int Int) : leT x y = decide (x.a < y.a ∨ (x.a = y.a ∧ (x.b < y.b ∨ (x.b = y.b ∧ x.c ≤ y.c)))) := by
  show (!DatumOrd.lt y x) = _
  have e : DatumOrd.lt y x = decide (y.a < x.a ∨ (y.a = x.a ∧ (y.b < x.b ∨ (y.b = x.b ∧ y.c < x.c)))) := by
    rw [Bool.eq_iff_iff, decide_eq_true_eq]
    show (if y.a = x.a then (if y.b = x.b then decide (y.c < x.c) else decide (y.b < x.b)) else decide (y.a < x.a)) = true ↔ _
    by_cases h : y.a = x.a
    · rw [if_pos h]
      by_cases h2 : y.b = x.b
      · rw [if_pos h2, decide_eq_true_eq]; omega
      · rw [if_neg h2, decide_eq_true_eq]; omega
    · rw [if_neg h, decide_eq_true_eq]; omega
  rw [e, Bool.eq_iff_iff, Bool.not_eq_true', decide_eq_false_iff_not, decide_eq_true_eq]
  omega
instance : LeOk (T3 Int Int Int) where
  tr x y z h1 h2 := by
    rw [leT_3, decide_eq_true_eq] at h1 h2 ⊢
    omega
  tot x y := by
    rw [leT_3, leT_3, Bool.or_eq_true, decide_eq_true_eq, decide_eq_true_eq]
    omega
  anti x y h1 h2 := by
    rw [leT_3, decide_eq_true_eq] at h1 h2
    exact PySem.W.T3.same (by omega) (by omega) (by omega)
variable [DecidableEq a] [DatumOrd a] [LeOk a]
theorem sortT_perm (xs : List a) : (sortT xs).Perm xs := List.mergeSort_perm xs _
theorem sortT_sorted (xs : List a) : (sortT xs).Pairwise (fun x y => leT x y = true) := List.pairwise_mergeSort (fun x y z => LeOk.tr x y z) (fun x y => LeOk.tot x y) xs
theorem sortT_eq {xs ys : List a} (h : xs.Perm ys) : sortT xs = sortT ys :=
  perm_sorted_eq LeOk.anti ((sortT_perm xs).trans (h.trans (sortT_perm ys).symm)) (sortT_sorted xs) (sortT_sorted ys)
theorem sortT_id {xs : List a} (h : xs.Pairwise (fun x y => leT x y = true)) : sortT xs = xs := perm_sorted_eq LeOk.anti (sortT_perm xs) (sortT_sorted xs) h
theorem sortT_idem (xs : List a) : sortT (sortT xs) = sortT xs := sortT_id (sortT_sorted xs)
theorem sortT_len (xs : List a) : (sortT xs).length = xs.length := (sortT_perm xs).length_eq
theorem sortT_mem {xs : List a} {x : a} : x ∈ sortT xs ↔ x ∈ xs := (sortT_perm xs).mem_iff
end
/-! ### numbers -/
theorem cdivW {i j : Int} (h : 0 < j) (h2 : j ≤ 10 ^ 40) : CDivW i j := by
  have h3 : j.natAbs ≤ 10 ^ 40 := by omega
  exact wide_div (b := 200) h (Nat.lt_of_le_of_lt h3 (by decide)) (by decide) (by decide)
theorem cmulW {i j : Int} (h1 : i.natAbs < 2 ^ 100000) (h2 : j.natAbs < 2 ^ 100000) : CMulW i j := wide_mul h1 h2 (by decide) (by decide) (by decide)

theorem erase_perm {a : Type} : ∀ {l : List a} {j : Nat} (h : j < l.length), (l[j] :: l.eraseIdx j).Perm l
  | x :: l, 0, _ => List.Perm.refl _
  | x :: l, j + 1, h => by
    have h' : j < l.length := by simpa using h
    show (l[j] :: x :: l.eraseIdx j).Perm (x :: l)
    exact (List.Perm.swap _ _ _).trans (List.Perm.cons _ (erase_perm h'))

/-! ### trees -/
abbrev Tie := T3 Int Int Int
abbrev Tr := List Int × List Tie
def tieOf (p q c : Int) : Tie := if p ≤ q then ⟨p, q, c⟩ else ⟨q, p, c⟩
/-- place by place, each new one tied to one that is there -/
inductive Grown : List Int → List Tie → Prop
  | one (p : Int) : Grown [p] []
  | more {ps : List Int} {ts : List Tie} (q p c : Int) : Grown ps ts → q ∈ ps → p ∉ ps → Grown (ps ++ [p]) (ts ++ [tieOf p q c])
theorem tieOf_lt {p q c : Int} (h : p ≠ q) : (tieOf p q c).a < (tieOf p q c).b ∧ ((tieOf p q c).a = p ∧ (tieOf p q c).b = q ∨ (tieOf p q c).a = q ∧ (tieOf p q c).b = p) ∧ (tieOf p q c).c = c := by
  unfold tieOf
  by_cases h1 : p ≤ q
  · rw [if_pos h1]; exact ⟨by show p < q; omega, .inl ⟨rfl, rfl⟩, rfl⟩
  · rw [if_neg h1]; exact ⟨by show q < p; omega, .inr ⟨rfl, rfl⟩, rfl⟩
theorem Grown.in {ps : List Int} {ts : List Tie} (g : Grown ps ts) : ∀ t ∈ ts, t.a ∈ ps ∧ t.b ∈ ps ∧ t.a < t.b := by
  induction g with
  | one p => intro t h; cases h
  | @more ps ts q p c g hq hp ih =>
    intro t h
    rcases List.mem_append.mp h with h | h
    · obtain ⟨h1, h2, h3⟩ := ih t h
      exact ⟨List.mem_append_left _ h1, List.mem_append_left _ h2, h3⟩
    · have e := List.mem_singleton.mp h
      subst e
      have hpq : p ≠ q := fun e => hp (e ▸ hq)
      obtain ⟨l, hab, _⟩ := tieOf_lt (c := c) hpq
      have mp : p ∈ ps ++ [p] := by simp
      have mq : q ∈ ps ++ [p] := List.mem_append_left _ hq
      rcases hab with ⟨h1, h2⟩ | ⟨h1, h2⟩
      · exact ⟨by rw [h1]; exact mp, by rw [h2]; exact mq, l⟩
      · exact ⟨by rw [h1]; exact mq, by rw [h2]; exact mp, l⟩
theorem Grown.len {ps : List Int} {ts : List Tie} (g : Grown ps ts) : ps.length = ts.length + 1 := by
  induction g with
  | one p => rfl
  | more q p c g hq hp ih => rw [List.length_append, List.length_append, ih]; rfl
theorem Grown.nd {ps : List Int} {ts : List Tie} (g : Grown ps ts) : ps.Nodup := by
  induction g with
  | one p => simp
  | more q p c g hq hp ih => exact List.nodup_append.mpr ⟨ih, by simp, fun x hx y hy e => by rw [List.mem_singleton.mp hy] at e; exact hp (e ▸ hx)⟩
/-- a tree: its worths, its ties sorted -/
structure TreeOk (t : Tr) : Prop where
  ex : ∃ ps ts, Grown ps ts ∧ ps.Perm (rangeL 0 (t.1.length : Int)) ∧ t.2 = sortT ts
theorem TreeOk.pos {t : Tr} (h : TreeOk t) : 1 ≤ t.1.length := by
  obtain ⟨ps, ts, g, p, e⟩ := h.ex
  have h1 := p.length_eq
  rw [rangeL_length] at h1
  have := g.len
  omega
theorem TreeOk.len {t : Tr} (h : TreeOk t) : t.1.length = t.2.length + 1 := by
  obtain ⟨ps, ts, g, p, e⟩ := h.ex
  have h1 := p.length_eq
  rw [rangeL_length] at h1
  have := g.len
  rw [e, sortT_len]
  omega
theorem rangeL_mem' {lo hi x : Int} : x ∈ rangeL lo hi ↔ lo ≤ x ∧ x < hi := by
  unfold rangeL
  rw [List.mem_map]
  constructor
  · rintro ⟨j, hj, rfl⟩
    have := List.mem_range.mp hj
    omega
  · rintro ⟨h1, h2⟩
    exact ⟨(x - lo).toNat, List.mem_range.mpr (by omega), by omega⟩
theorem TreeOk.tie {t : Tr} (h : TreeOk t) : ∀ x ∈ t.2, 0 ≤ x.a ∧ x.a < x.b ∧ x.b < (t.1.length : Int) := by
  obtain ⟨ps, ts, g, p, e⟩ := h.ex
  intro x hx
  rw [e, sortT_mem] at hx
  obtain ⟨h1, h2, h3⟩ := g.in x hx
  have a1 := rangeL_mem'.mp (p.mem_iff.mp h1)
  have a2 := rangeL_mem'.mp (p.mem_iff.mp h2)
  exact ⟨a1.1, h3, a2.2⟩
theorem TreeOk.sorted {t : Tr} (h : TreeOk t) : sortT t.2 = t.2 := by
  obtain ⟨ps, ts, g, p, e⟩ := h.ex
  rw [e, sortT_idem]
theorem sort2 (x y : Int) : sortT [x, y] = if x ≤ y then [x, y] else [y, x] := by
  by_cases h : x ≤ y
  · rw [if_pos h]
    exact sortT_id (by simp [leT_int, h])
  · rw [if_neg h]
    have e : sortT [x, y] = sortT [y, x] := sortT_eq (List.Perm.swap _ _ _)
    rw [e]
    exact sortT_id (by simp [leT_int]; omega)

theorem fm_congr {a b : Type} {f g : a → Option b} : ∀ {l : List a}, (∀ x ∈ l, f x = g x) → l.filterMap f = l.filterMap g
  | [], _ => rfl
  | x :: l, h => by
    have h1 := h x List.mem_cons_self
    have h2 := fm_congr (l := l) fun y hy => h y (List.mem_cons_of_mem _ hy)
    rw [List.filterMap_cons, List.filterMap_cons, h1, h2]
end PG

set_option Elab.async false
set_option linter.all false
set_option maxRecDepth 100000
namespace G
open PySem PySem.Spec PyProof.Rows L2 PG
open PySem.W (T3 T4 Datum DatumOrd)
def top (i : Nat) : Stmt := PySem.Challenge.pw_everyseat_k30_best_sets.main.body.getD i (.Pass ⟨0, 0, 0, 0⟩)
structure Nb {K : PySem.W.Frag} [KF K] (mg : Str → Option Value) : Prop where
  b_ValueError : mg "ValueError" = none
  b_all : mg "all" = none
  b_bool : mg "bool" = none
  b_enumerate : mg "enumerate" = none
  b_int : mg "int" = none
  b_isinstance : mg "isinstance" = none
  b_len : mg "len" = none
  b_list : mg "list" = none
  b_max : mg "max" = none
  b_min : mg "min" = none
  b_range : mg "range" = none
  b_sorted : mg "sorted" = none
  b_sum : mg "sum" = none
structure ExA (K : PySem.W.Frag) (mg : Str → Option Value) (C_SeatError C_NoPlace C_NoLength C_NoName C_NoOrder C_NoPaper C_NoRule C_NoText C_NoTie C_NoTree : Addr) : Prop where
  g_SeatError : mg "SeatError" = some (.ref C_SeatError)
  d_SeatError : PySem.W.hasDictIn K C_SeatError = true
  t_SeatError : PySem.W.typeIn K (.ref C_SeatError) = some (.type "type")
  n_SeatError : PySem.W.subIn K (.type "NoneType") (.ref C_SeatError) = some false
  b_SeatError : PySem.W.subIn K (.ref C_SeatError) (.type "BaseException") = some true
  s_SeatError_SeatError : PySem.W.subIn K (.ref C_SeatError) (.ref C_SeatError) = some true
  g_NoPlace : mg "NoPlace" = some (.ref C_NoPlace)
  d_NoPlace : PySem.W.hasDictIn K C_NoPlace = true
  t_NoPlace : PySem.W.typeIn K (.ref C_NoPlace) = some (.type "type")
  n_NoPlace : PySem.W.subIn K (.type "NoneType") (.ref C_NoPlace) = some false
  b_NoPlace : PySem.W.subIn K (.ref C_NoPlace) (.type "BaseException") = some true
  s_NoPlace_NoPlace : PySem.W.subIn K (.ref C_NoPlace) (.ref C_NoPlace) = some true
  g_NoLength : mg "NoLength" = some (.ref C_NoLength)
  d_NoLength : PySem.W.hasDictIn K C_NoLength = true
  t_NoLength : PySem.W.typeIn K (.ref C_NoLength) = some (.type "type")
  n_NoLength : PySem.W.subIn K (.type "NoneType") (.ref C_NoLength) = some false
  b_NoLength : PySem.W.subIn K (.ref C_NoLength) (.type "BaseException") = some true
  s_NoLength_NoLength : PySem.W.subIn K (.ref C_NoLength) (.ref C_NoLength) = some true
  g_NoName : mg "NoName" = some (.ref C_NoName)
  d_NoName : PySem.W.hasDictIn K C_NoName = true
  t_NoName : PySem.W.typeIn K (.ref C_NoName) = some (.type "type")
  n_NoName : PySem.W.subIn K (.type "NoneType") (.ref C_NoName) = some false
  b_NoName : PySem.W.subIn K (.ref C_NoName) (.type "BaseException") = some true
  s_NoName_NoName : PySem.W.subIn K (.ref C_NoName) (.ref C_NoName) = some true
  g_NoOrder : mg "NoOrder" = some (.ref C_NoOrder)
  d_NoOrder : PySem.W.hasDictIn K C_NoOrder = true
  t_NoOrder : PySem.W.typeIn K (.ref C_NoOrder) = some (.type "type")
  n_NoOrder : PySem.W.subIn K (.type "NoneType") (.ref C_NoOrder) = some false
  b_NoOrder : PySem.W.subIn K (.ref C_NoOrder) (.type "BaseException") = some true
  s_NoOrder_NoOrder : PySem.W.subIn K (.ref C_NoOrder) (.ref C_NoOrder) = some true
  g_NoPaper : mg "NoPaper" = some (.ref C_NoPaper)
  d_NoPaper : PySem.W.hasDictIn K C_NoPaper = true
  t_NoPaper : PySem.W.typeIn K (.ref C_NoPaper) = some (.type "type")
  n_NoPaper : PySem.W.subIn K (.type "NoneType") (.ref C_NoPaper) = some false
  b_NoPaper : PySem.W.subIn K (.ref C_NoPaper) (.type "BaseException") = some true
  s_NoPaper_NoPaper : PySem.W.subIn K (.ref C_NoPaper) (.ref C_NoPaper) = some true
  g_NoRule : mg "NoRule" = some (.ref C_NoRule)
  d_NoRule : PySem.W.hasDictIn K C_NoRule = true
  t_NoRule : PySem.W.typeIn K (.ref C_NoRule) = some (.type "type")
  n_NoRule : PySem.W.subIn K (.type "NoneType") (.ref C_NoRule) = some false
  b_NoRule : PySem.W.subIn K (.ref C_NoRule) (.type "BaseException") = some true
  s_NoRule_NoRule : PySem.W.subIn K (.ref C_NoRule) (.ref C_NoRule) = some true
  g_NoText : mg "NoText" = some (.ref C_NoText)
  d_NoText : PySem.W.hasDictIn K C_NoText = true
  t_NoText : PySem.W.typeIn K (.ref C_NoText) = some (.type "type")
  n_NoText : PySem.W.subIn K (.type "NoneType") (.ref C_NoText) = some false
  b_NoText : PySem.W.subIn K (.ref C_NoText) (.type "BaseException") = some true
  s_NoText_NoText : PySem.W.subIn K (.ref C_NoText) (.ref C_NoText) = some true
  g_NoTie : mg "NoTie" = some (.ref C_NoTie)
  d_NoTie : PySem.W.hasDictIn K C_NoTie = true
  t_NoTie : PySem.W.typeIn K (.ref C_NoTie) = some (.type "type")
  n_NoTie : PySem.W.subIn K (.type "NoneType") (.ref C_NoTie) = some false
  b_NoTie : PySem.W.subIn K (.ref C_NoTie) (.type "BaseException") = some true
  s_NoTie_NoTie : PySem.W.subIn K (.ref C_NoTie) (.ref C_NoTie) = some true
  g_NoTree : mg "NoTree" = some (.ref C_NoTree)
  d_NoTree : PySem.W.hasDictIn K C_NoTree = true
  t_NoTree : PySem.W.typeIn K (.ref C_NoTree) = some (.type "type")
  n_NoTree : PySem.W.subIn K (.type "NoneType") (.ref C_NoTree) = some false
  b_NoTree : PySem.W.subIn K (.ref C_NoTree) (.type "BaseException") = some true
  s_NoTree_NoTree : PySem.W.subIn K (.ref C_NoTree) (.ref C_NoTree) = some true
  e_NoPlace : ExcC K C_NoPlace
  v_NoPlace : PySem.W.subIn K (.ref C_NoPlace) (.type "ValueError") = some true
  s_NoPlace_SeatError : PySem.W.subIn K (.ref C_NoPlace) (.ref C_SeatError) = some true
  s_NoPlace_NoLength : PySem.W.subIn K (.ref C_NoPlace) (.ref C_NoLength) = some false
  s_NoPlace_NoName : PySem.W.subIn K (.ref C_NoPlace) (.ref C_NoName) = some false
  s_NoPlace_NoOrder : PySem.W.subIn K (.ref C_NoPlace) (.ref C_NoOrder) = some false
  s_NoPlace_NoPaper : PySem.W.subIn K (.ref C_NoPlace) (.ref C_NoPaper) = some false
  s_NoPlace_NoRule : PySem.W.subIn K (.ref C_NoPlace) (.ref C_NoRule) = some false
  s_NoPlace_NoText : PySem.W.subIn K (.ref C_NoPlace) (.ref C_NoText) = some false
  s_NoPlace_NoTie : PySem.W.subIn K (.ref C_NoPlace) (.ref C_NoTie) = some false
  s_NoPlace_NoTree : PySem.W.subIn K (.ref C_NoPlace) (.ref C_NoTree) = some false
structure ExAll (K : PySem.W.Frag) (mg : Str → Option Value) : Prop where
  ex : ∃ C_SeatError C_NoPlace C_NoLength C_NoName C_NoOrder C_NoPaper C_NoRule C_NoText C_NoTie C_NoTree : Addr, ExA K mg C_SeatError C_NoPlace C_NoLength C_NoName C_NoOrder C_NoPaper C_NoRule C_NoText C_NoTie C_NoTree
section
variable {P : Program} {w : World} {K : PySem.W.Frag} {mg : Str → Option Value} {base : Heap} [KF K]
abbrev s_tied_places : Stmt := top 12
theorem sc_tied_places : FnScope ["many", "ties", "found", "a", "b", "length", "near", "place"] ["many", "ties"] (defScope s_tied_places) := ⟨rfl, rfl, rfl, by decide +kernel, rfl, by decide +kernel, by decide +kernel⟩
def addAt (fs : List (List Int)) (a b : Int) : M (List (List Int)) := match ixN fs.length a with
  | some j => (match fs[j]? with
    | some x => appL x b >>= fun y => .ok (fs.set j y)
    | none => bad)
  | none => bad
def m_tied_places (x_many : Int) (x_ties : List (T3 Int Int Int)) : M (List (List Int)) :=
  chk (okR x_many) >>= fun _ =>
  loopN (fun (t : T3 Int Int Int) (fs : List (List Int)) => addAt fs t.a t.b >>= fun f1 => addAt f1 t.b t.a) (sortT x_ties) (List.replicate x_many.toNat []) >>= fun fs =>
  .ok (fs.map sortT)
theorem wp_addAt {b : Type} {Q : b → Prop} {E : String → Prop} {fs : List (List Int)} {a y : Int} {k : List (List Int) → M b} (h : wp (addAt fs a y >>= k) Q E) :
    ∃ j x, ixN fs.length a = some j ∧ fs[j]? = some x ∧ x.length < sizeLine ∧ wp (k (fs.set j (x ++ [y]))) Q E := by
  unfold addAt at h
  cases e : ixN fs.length a with
  | none => rw [e] at h; exact h.elim
  | some j =>
    rw [e] at h
    have h : wp ((match fs[j]? with
      | some x => appL x y >>= fun y => .ok (fs.set j y)
      | none => bad) >>= k) Q E := h
    cases e2 : fs[j]? with
    | none => rw [e2] at h; exact h.elim
    | some x =>
      rw [e2] at h
      have h : wp ((appL x y >>= fun y => .ok (fs.set j y)) >>= k) Q E := h
      rw [wp_bind] at h
      obtain ⟨c, h⟩ := wp_appL h
      exact ⟨j, x, rfl, e2, c, h⟩
/-- all lists are new -/
def sp_tied_places_own (mg : Str → Option Value) : Sp := fun vs H Q E => ∃ (F : Hp) (x_many : Int) (v_ties : V) (x_ties : List (T3 Int Int Int)), vs = [.int x_many, v_ties] ∧ Pre F [] H ∧ R F v_ties x_ties ∧
  wp (m_tied_places x_many x_ties) (fun r => ∀ (F' H' : Hp) (p : Addr) (ps : List LC), Gr [] F H F' H' → OwnLL H F' H' p ps → ps.map (·.2) = r → Q (.ref p) H')
  (fun n => ∀ (C : Addr) (H' : Hp), mg (Str.ofString n) = some (.ref C) → Kp [] H H' → E (.ref C) none H')
def sp_tied_places (mg : Str → Option Value) : Sp := fun vs H Q E => ∃ (F : Hp) (x_many : Int) (v_ties : V) (x_ties : (List (T3 Int Int Int))), vs = [.int x_many, v_ties] ∧ Pre F [] H ∧ R (a := (List (T3 Int Int Int))) F v_ties x_ties ∧
  wp (m_tied_places x_many x_ties) (fun r => ∀ (F' H' : Hp), Gr [] F H F' H' → ∀ (p : Addr) (w : List V), H p = none → F' p = none → H' p = some (.lst w) → RL (a := (List Int)) F' w r → Q (.ref p) H')
  (fun n => ∀ (C : Addr) (H' : Hp), mg (Str.ofString n) = some (.ref C) → Kp [] H H' → E (.ref C) none H')
theorem lc_set {ps : List LC} {j : Nat} {c : LC} {y : List Int} (h : ps[j]? = some c) : (ps.set j (c.1, y)).map (·.1) = ps.map (·.1) ∧ (ps.set j (c.1, y)).map (·.2) = (ps.map (·.2)).set j y := by
  refine ⟨?_, by rw [List.map_set]⟩
  rw [List.map_set]
  refine List.ext_getElem? fun k => ?_
  by_cases hk : j = k
  · subst hk
    have hl := (List.getElem?_eq_some_iff.mp h).1
    rw [List.getElem?_set_self (by simpa using hl), List.getElem?_map, h]
    rfl
  · rw [List.getElem?_set_ne hk]
/-- one append -/
theorem tp_app {Z : Ent} {F H : Hp} {D : Addr} {o : HO} {rest : List (Addr × HO)} {ps : List LC} (O : Ow Z F ((D, o) :: ps.map lcell) H) {j : Nat} {c : LC} (h : ps[j]? = some c) (y : Int) :
    Ow Z F ((D, o) :: (ps.set j (c.1, c.2 ++ [y])).map lcell) (upd H c.1 (.lst (c.2.map V.int ++ [V.int y]))) ∧ H c.1 = some (.lst (c.2.map V.int)) := by
  have e : ((D, o) :: ps.map lcell)[j + 1]? = some (c.1, .lst (c.2.map V.int)) := by
    rw [List.getElem?_cons_succ, List.getElem?_map, h]
    rfl
  refine ⟨?_, O.at (j + 1) e⟩
  have q := O.set (j + 1) (.lst (c.2.map V.int ++ [V.int y])) e
  have e2 : ((D, o) :: ps.map lcell).set (j + 1) (c.1, .lst (c.2.map V.int ++ [V.int y])) = (D, o) :: (ps.set j (c.1, c.2 ++ [y])).map lcell := by
    rw [List.set_cons_succ, List.map_set]
    unfold lcell
    rw [List.map_append]
    rfl
  rw [e2] at q
  exact q
theorem tp_at {ps : List LC} {j : Nat} {x : List Int} (h : (ps.map (·.2))[j]? = some x) : ∃ c, ps[j]? = some c ∧ c.2 = x := by
  rw [List.getElem?_map] at h
  cases e : ps[j]? with
  | none => rw [e] at h; cases h
  | some c => rw [e] at h; exact ⟨c, rfl, Option.some.inj h⟩
theorem tp_ix {ps : List LC} {a : Int} {j : Nat} {c : LC} (e : ixN (ps.map (·.2)).length a = some j) (h : ps[j]? = some c) : atI (lrefs ps) a = some (.ref c.1) := by
  unfold atI lrefs
  rw [List.length_map] at e ⊢
  rw [e]
  show (lrefs ps)[j]? = _
  rw [List.getElem?_map, h]
  rfl
set_option maxHeartbeats 4000000 in
theorem ok_tied_places_own (nb : Nb mg) (D : Df K mg "tied_places" "tied_places" s_tied_places ["many", "ties"]) : Ca P w K mg base "tied_places" 1 ["many", "ties"] (sp_tied_places_own mg) := by
  refine Ca.mk' D sc_tied_places (fun vs H Q E h => ?_) (fun q_ f_ cdv A outer s H vs Q E hr h => ?_)
  · obtain ⟨F, _, _, _, rfl, _⟩ := h
    rfl
  · obtain ⟨F, x_many, v_ties, x_ties, rfl, P0, f_ties, hk⟩ := h
    have nd := sc_tied_places.nd
    have hu128 := hu128_of hr
    have O := P0.start
    refine ⟨_, pss_cons (ps_setLc (i := 2) (own := [("place", 7)]) (g := _) (tt := _) rfl nd rfl rfl (sw_true rfl rfl rfl (by decide +kernel)) (pi_range1 rfl nb.b_range (pa_cons (pv 0) pa_nil))
        (blkOk_by (own := [("place", 7)]) (N := ["many", "ties", "found", "a", "b", "length", "near", "place"]) (sc := defScope s_tied_places) (by decide +kernel)) (fun _ _ _ _ _ => (pg_name (i := 7) nd rfl (Or.inl rfl))) (fun _ _ _ _ _ => pts_nil) (fun _ _ _ _ _ => pe_lst pa_nil))
      (pss_cons (ps_for (passes_of rfl) rfl (pi_list (pe_callB (cr_sortedT (T3 Int Int Int) hu128) (by rfl) nb.b_sorted (by decide +kernel) (pa_cons (pv 1) pa_nil)))
        (pg_tup rfl (pgs_cons (pg_name (i := 3) nd rfl (Or.inl rfl)) (pgs_cons (pg_name (i := 4) nd rfl (Or.inl rfl)) (pgs_cons (pg_name (i := 5) nd rfl (Or.inl rfl)) pgs_nil))))
        (pss_cons (ps_expr (pe_bm PySem.F.plainAttrs_list PySem.F.slot_list_append PySem.F.type_list_append mt_append (pe_ix ix_list (pv 2) (pv 3) (fun _ _ => rfl)) (pa_cons (pv 4) pa_nil)))
          (pss_one (ps_expr (pe_bm PySem.F.plainAttrs_list PySem.F.slot_list_append PySem.F.type_list_append mt_append (pe_ix ix_list (pv 2) (pv 4) (fun _ _ => rfl)) (pa_cons (pv 3) pa_nil))))))
      (pss_one (ps_ret (pe_lc (own := [("near", 6)]) (g := _) (tt := _) rfl nd (pi_list (pv 2))
        (blkOk_by (own := [("near", 6)]) (N := ["many", "ties", "found", "a", "b", "length", "near", "place"]) (sc := defScope s_tied_places) (by decide +kernel)) (fun _ _ _ _ _ => (pg_name (i := 6) nd rfl (Or.inl rfl))) (fun _ _ _ _ _ => pts_nil)
        (fun _ _ _ _ _ => pe_callB (cr_sortedT Int hu128) (by rfl) nb.b_sorted (by decide +kernel) (pa_cons (pv 6) pa_nil)))))), ?_⟩
    obtain ⟨c1, hk⟩ := wp_chk hk
    obtain ⟨L, hL, hLs, hLd⟩ := loopN_L hk
    refine ⟨_, rfl, _, rfl, c1.lo, c1.hi, fun D hD => ?_⟩
    refine lc_range (lo := 0) (n := x_many.toNat) (fun i H => ∃ ps : List LC, Ow _ F ((D, .lst (lrefs ps)) :: ps.map lcell) H ∧ ps.map (·.2) = List.replicate i []) ⟨[], O.new hD, rfl⟩ ?_ ?_
    · rintro i H1 hi ⟨ps, O1, e1⟩
      refine ⟨rfl, (by show 0 ≤ sizeLine; decide), fun q hq => ?_⟩
      have O2 := O1.new (o := .lst []) hq
      have hlen : ps.length = i := by
        have := congrArg List.length e1
        simpa using this
      have b := c1.2
      refine ⟨_, O2.at 1 rfl, lt_line (by rw [List.length_map]; omega), ps ++ [(q, [])], ?_, by rw [List.map_append, e1, List.replicate_succ']; rfl⟩
      have O3 := O2.set 1 (.lst ((lrefs ps) ++ [V.ref q])) rfl
      have ea : lrefs (ps ++ [(q, [])]) = lrefs ps ++ [V.ref q] := List.map_append
      rw [ea, List.map_append]
      refine O3.perm ?_
      show ((q, HO.lst []) :: (D, _) :: ps.map lcell).Perm ((D, _) :: (ps.map lcell ++ [(q, HO.lst [])]))
      refine (List.Perm.swap _ _ _).trans (List.Perm.cons _ ?_)
      exact (List.perm_append_comm (l₁ := [(q, HO.lst [])]) (l₂ := ps.map lcell))
    · rintro H1 ⟨ps, O1, e1⟩
      obtain ⟨p1, w1, e2, h2, hl2⟩ := R.lst_ f_ties
      cases e2
      refine ⟨_, rfl, _, _, _, rfl, O1.s _ _ h2, RL.mono hl2 O1.s, fun p3 hp3 => ?_⟩
      obtain ⟨F4, O4, S4, h4⟩ := O1.putE hp3 (.lst (sortV w1 x_ties))
      have hl4 := (RL.sorted hl2).mono S4
      refine ⟨_, rfl, ⟨_, SqLF O4.s h4⟩, ?_⟩
      rw [← e1] at hL
      refine for_list (K := K) (xs := sortV w1 x_ties) (fun i σ H => ∃ (ps' : List LC) (t3 t4 t5 : Option V), σ = [some (V.int x_many), some (V.ref p1), some (V.ref D), t3, t4, t5, none, none] ∧ Ow _ F4 ((D, .lst (lrefs ps')) :: ps'.map lcell) H ∧ ps'.length = x_many.toNat ∧ L (List.drop i (sortT x_ties)) (ps'.map fun (c : LC) => c.2))
        ⟨ps, none, none, none, rfl, O4, (by have := congrArg List.length e1; simpa using this), hL⟩ (fun i_ σ_ H_ _ hp_ => ?_) ?_ ?_
      · obtain ⟨_, _, _, _, _, hO_, _⟩ := hp_
        exact SqLF hO_.s h4
      · rintro i x σ H5 hi ⟨ps', t3, t4, t5, rfl, O5, hl5, hL5⟩
        obtain ⟨y, ey, hy⟩ := RL.got hl4 hi
        rw [drop_at ey] at hL5
        have hk := hLs _ _ _ hL5
        obtain ⟨p6, v1, v2, v3, e6, h6, r1, r2, r3⟩ := R.t3_ hy
        cases e6
        obtain rfl := R.int_ r1
        obtain rfl := R.int_ r2
        obtain rfl := R.int_ r3
        obtain ⟨j, x, ej, ex, cl, hk⟩ := wp_addAt hk
        have hk := wp_bind (k := fun r => Except.ok r) |>.mpr hk
        obtain ⟨j2, x2, ej2, ex2, cl2, hk⟩ := wp_addAt hk
        obtain ⟨c, hc, rfl⟩ := tp_at ex
        obtain ⟨O6, hq6⟩ := tp_app (rest := []) O5 hc y.b
        obtain ⟨l1, l2⟩ := lc_set (y := c.2 ++ [y.b]) hc
        rw [← l2] at ex2 ej2
        obtain ⟨c', hc', rfl⟩ := tp_at ex2
        obtain ⟨O7, hq7⟩ := tp_app (rest := []) O6 hc' y.a
        obtain ⟨l3, l4⟩ := lc_set (y := c'.2 ++ [y.a]) hc'
        have eD : lrefs (ps'.set j (c.1, c.2 ++ [y.b])) = lrefs ps' := by
          have := congrArg (List.map V.ref) l1
          rw [List.map_map, List.map_map] at this
          exact this
        have eD2 : lrefs ((ps'.set j (c.1, c.2 ++ [y.b])).set j2 (c'.1, c'.2 ++ [y.a])) = lrefs (ps'.set j (c.1, c.2 ++ [y.b])) := by
          have := congrArg (List.map V.ref) l3
          rw [List.map_map, List.map_map] at this
          exact this
        have i2 : atI (lrefs ps') y.b = some (.ref c'.1) := by
          rw [← eD]
          exact tp_ix ej2 hc'
        refine ⟨_, _, rfl, SqTF O5.s h6, rfl, _, _, rfl, _, _, rfl, _, _, rfl, rfl, _, rfl, _, rfl, _, _, _, _, rfl, rfl, SqL.of (O5.at 0 rfl), tp_ix ej hc, .inl ⟨rfl, _, SqL.of hq6⟩, _, rfl, _, _, _, rfl, rfl, hq6, by rw [List.length_map]; exact cl, ?_⟩
        refine ⟨_, rfl, _, rfl, _, _, _, _, rfl, rfl, SqL.of (O6.at 0 rfl), i2, .inl ⟨rfl, _, SqL.of hq7⟩, _, rfl, _, _, _, rfl, rfl, hq7, by rw [List.length_map]; exact cl2, ?_⟩
        refine ⟨_, _, _, _, rfl, by rw [eD2, eD]; exact O7, by rw [List.length_set, List.length_set]; exact hl5, ?_⟩
        rw [l4, l2]
        exact hk
      · rintro σ H5 ⟨ps', t3, t4, t5, rfl, O5, hl5, hL5⟩
        rw [drop_end hl4.len] at hL5
        have hk := hLd _ hL5
        refine ⟨_, rfl, _, rfl, ⟨_, SqL.of (O5.at 0 rfl)⟩, fun D2 hD2 => ?_⟩
        have b1 := c1.2
        refine lc_list (K := K) (xs := lrefs ps') (fun i H => ∃ qs : List LC, Ow _ F4 ((D2, .lst (lrefs qs)) :: (qs.map lcell ++ ((D, .lst (lrefs ps')) :: ps'.map lcell))) H ∧ qs.map (·.2) = ((ps'.map (·.2)).take i).map sortT)
          ⟨[], O5.new hD2, by simp⟩ (fun i_ H_ _ hp_ => ?_) ?_ ?_
        · obtain ⟨qs, hO_, _⟩ := hp_
          exact SqL.of (hO_.ch (D, _) (List.mem_cons_of_mem _ (List.mem_append_right _ List.mem_cons_self)))
        · rintro i x H6 hi ⟨qs, O6, e6⟩
          obtain ⟨c, hc, rfl⟩ : ∃ c, ps'[i]? = some c ∧ x = V.ref c.1 := by
            have hi : (ps'.map fun (c : LC) => V.ref c.1)[i]? = some x := hi
            rw [List.getElem?_map] at hi
            cases e : ps'[i]? with
            | none => rw [e] at hi; cases hi
            | some c => rw [e] at hi; exact ⟨c, rfl, (Option.some.inj hi).symm⟩
          have hm : lcell c ∈ ps'.map lcell := List.mem_map.mpr ⟨c, List.mem_of_getElem? hc, rfl⟩
          have hq := O6.ch (lcell c) (List.mem_cons_of_mem _ (List.mem_append_right _ (List.mem_cons_of_mem _ hm)))
          have hil := (List.getElem?_eq_some_iff.mp hc).1
          have hql : qs.length ≤ i := by
            have := congrArg List.length e6
            simp at this
            omega
          have es : sortV (c.2.map V.int) c.2 = (sortT c.2).map V.int := (RL.sorted (H := F) RL.of_ints).ints
          refine ⟨rfl, _, rfl, _, _, c.2, rfl, hq, RL.of_ints, fun p hp => ?_⟩
          have O7 := O6.new (o := .lst (sortV (c.2.map V.int) c.2)) hp
          refine ⟨_, O7.at 1 rfl, lt_line (by rw [List.length_map]; omega), qs ++ [(p, sortT c.2)], ?_, ?_⟩
          · have O8 := O7.set 1 (.lst (lrefs qs ++ [V.ref p])) rfl
            have ea : lrefs (qs ++ [(p, sortT c.2)]) = lrefs qs ++ [V.ref p] := List.map_append
            rw [ea, List.map_append]
            refine O8.perm ?_
            rw [es]
            show ((p, HO.lst _) :: (D2, _) :: (qs.map lcell ++ _)).Perm ((D2, _) :: (qs.map lcell ++ [(p, HO.lst _)] ++ _))
            refine (List.Perm.swap _ _ _).trans (List.Perm.cons _ ?_)
            rw [List.append_assoc]
            exact List.perm_middle.symm
          · rw [List.map_append, e6]
            have e7 : (ps'.map (·.2))[i]? = some c.2 := by rw [List.getElem?_map, hc]; rfl
            rw [List.take_succ, e7, List.map_append]
            rfl
        · rintro H6 ⟨qs, O6, e6⟩
          have el : (lrefs ps').length = (ps'.map (·.2)).length := by rw [List.length_map, List.length_map]
          rw [el, List.take_length] at e6
          have hsub : ∀ c ∈ qs, lcell c ∈ (D2, HO.lst (lrefs qs)) :: (qs.map lcell ++ ((D, .lst (lrefs ps')) :: ps'.map lcell)) := fun c hc => List.mem_cons_of_mem _ (List.mem_append_left _ (List.mem_map.mpr ⟨c, hc, rfl⟩))
          have nas : ∀ b : Addr, ¬ b ∈ ([] : List Addr) := fun b h => nomatch h
          refine hk F4 H6 D2 qs O6.g ⟨O5.was hD2, O6.cf _ List.mem_cons_self, O6.ch _ List.mem_cons_self, fun c hc => (O6.ca _ (hsub c hc)).resolve_left (nas _), fun c hc => O6.cf _ (hsub c hc), fun c hc => O6.ch _ (hsub c hc), ?_⟩ e6
          have n := O6.nd
          rw [List.map_cons, List.map_append, List.nodup_cons, List.nodup_append] at n
          rw [List.nodup_cons]
          have em : (qs.map lcell).map (·.1) = qs.map (·.1) := by
            rw [List.map_map]
            rfl
          rw [em] at n
          exact ⟨fun h => n.1 (List.mem_append_left _ h), n.2.1⟩
theorem ok_tied_places (nb : Nb mg) (D : Df K mg "tied_places" "tied_places" s_tied_places ["many", "ties"]) : Ca P w K mg base "tied_places" 1 ["many", "ties"] (sp_tied_places mg) := by
  refine FnOk.impC (ok_tied_places_own nb D) fun vs H Q E h => ?_
  obtain ⟨F, x_many, v_ties, x_ties, rfl, P0, f_ties, hk⟩ := h
  refine ⟨F, x_many, v_ties, x_ties, rfl, P0, f_ties, wp_mono hk fun r k F' H' p ps g L e => ?_⟩
  obtain ⟨F2, g2, n2, rl⟩ := L.frz g
  rw [e] at rl
  exact k F2 H' g2 p _ L.pn n2 L.ph rl

abbrev s_need_place : Stmt := top 13
theorem sc_need_place : FnScope ["tree", "place"] ["tree", "place"] (defScope s_need_place) := ⟨rfl, rfl, rfl, by decide +kernel, rfl, by decide +kernel, by decide +kernel⟩
def m_need_place (x_tree : ((List Int) × (List (T3 Int Int Int)))) (x_place : Int) : M (Unit) :=
if (0 : Int) ≤ x_place then (
if x_place < (x_tree.1.length : Int) then (
.ok ())
else (
raise "NoPlace"))
else (
raise "NoPlace")
def sp_need_place (mg : Str → Option Value) : Sp := fun vs H Q E => ∃ (F : Hp) (v_tree : V) (x_tree : ((List Int) × (List (T3 Int Int Int)))) (x_place : Int), vs = [v_tree, V.int x_place] ∧ Pre F [] H ∧ R (a := ((List Int) × (List (T3 Int Int Int)))) F v_tree x_tree ∧
  wp (m_need_place x_tree x_place) (fun r => ∀ (F' H' : Hp), Gr [] F H F' H' → Q .non H')
  (fun n => ∀ (C : Addr) (H' : Hp), mg (Str.ofString n) = some (.ref C) → Kp [] H H' → E (.ref C) none H')
set_option maxHeartbeats 20000000 in
theorem ok_need_place (nb : Nb mg) (E_NoPlace : ∃ C, Xc K mg "NoPlace" C) (D : Df K mg "need_place" "need_place" s_need_place ["tree", "place"]) : Ca P w K mg base "need_place" 1 ["tree", "place"] (sp_need_place mg) := by
  obtain ⟨XC_NoPlace, X_NoPlace⟩ := E_NoPlace
  refine Ca.mk' D sc_need_place (fun vs H Q E h => ?_) (fun q_ f_ cdv A outer s H vs Q E hr h => ?_)
  · obtain ⟨F, _, _, _, rfl, _⟩ := h
    rfl
  · obtain ⟨F, v_tree, x_tree, x_place, rfl, P0, f_tree, hk⟩ := h
    have nd := sc_need_place.nd
    have hu64 := hr.units
    have hu128 := hu128_of hr
    have O := P0.start
    refine ⟨_, (pss_one (ps_if (pt_not (pt_chain op_le op_lt pe_int (pv 1) (pe_callB call_lenT (by rfl) nb.b_len PySem.boot_len (pa_cons (pe_ix (ixTupK (K := K) rfl) (pv 0) pe_int (fun _ _ => rfl)) pa_nil)))) (pss_one (ps_raise rfl (takes_of rfl rfl rfl rfl) (pmk_own PySem.F.excBase_ValueError X_NoPlace.x X_NoPlace.g X_NoPlace.k (raises_own X_NoPlace.b X_NoPlace.t) rfl))) pss_nil)), ?_⟩
    refine ⟨_, rfl, _, _, rfl, rfl, _, rfl, ?_⟩
    refine iteD (fun q1 => ?_) (fun q1 => ?_)
    · have hk := wp_if hk q1
      obtain ⟨p2, v5, v6, e3, h4, r7, r8⟩ := R.t2_ f_tree
      cases e3
      obtain ⟨p9, w10, e11, h12, hl13⟩ := R.lst_ r7
      cases e11
      refine ⟨_, rfl, _, _, _, _, rfl, rfl, (SqTF O.s h4), rfl, _, _, _, rfl, (.inl (O.s _ _ h12)), hl13.len, _, _, rfl, rfl, _, rfl, ?_⟩
      refine iteN (fun q14 => ?_) (fun q14 => ?_)
      · have hk := wp_if hk q14
        exact hk _ _  O.g 
      · have hk := wp_el hk q14
        exact hk _ _ X_NoPlace.g O.kp
    · have hk := wp_el hk q1
      refine ⟨_, rfl, ?_⟩
      refine iteNF ?_
      exact hk _ _ X_NoPlace.g O.kp
abbrev s_tied_to : Stmt := top 14
theorem sc_tied_to : FnScope ["tree", "place"] ["tree", "place"] (defScope s_tied_to) := ⟨rfl, rfl, rfl, by decide +kernel, rfl, by decide +kernel, by decide +kernel⟩
def m_tied_to (x_tree : List Int × List (T3 Int Int Int)) (x_place : Int) : M (List Int) :=
  m_need_place x_tree x_place >>= fun _ =>
  m_tied_places (x_tree.1.length : Int) x_tree.2 >>= fun r =>
  opt (atI r x_place) >>= fun y =>
  .ok y
def sp_tied_to (mg : Str → Option Value) : Sp := fun vs H Q E => ∃ (F : Hp) (v_tree : V) (x_tree : List Int × List (T3 Int Int Int)) (x_place : Int), vs = [v_tree, .int x_place] ∧ Pre F [] H ∧ R (a := List Int × List (T3 Int Int Int)) F v_tree x_tree ∧
  wp (m_tied_to x_tree x_place) (fun r => ∀ (F' H' : Hp), Gr [] F H F' H' → ∀ (p : Addr) (w : List V), H p = none → F' p = none → H' p = some (.lst w) → RL (a := Int) F' w r → Q (.ref p) H')
  (fun n => ∀ (C : Addr) (H' : Hp), mg (Str.ofString n) = some (.ref C) → Kp [] H H' → E (.ref C) none H')
set_option maxHeartbeats 2000000 in
theorem ok_tied_to (nb : Nb mg) (C_need_place : Ca P w K mg base "need_place" 1 ["tree", "place"] (sp_need_place mg)) (C_tied_places : Ca P w K mg base "tied_places" 1 ["many", "ties"] (sp_tied_places_own mg))
    (D : Df K mg "tied_to" "tied_to" s_tied_to ["tree", "place"]) : Ca P w K mg base "tied_to" 2 ["tree", "place"] (sp_tied_to mg) := by
  obtain ⟨fa1, fd1, G1, M1, K1, B1⟩ := C_need_place.ex
  obtain ⟨fa2, fd2, G2, M2, K2, B2⟩ := C_tied_places.ex
  refine Ca.mk' D sc_tied_to (fun vs H Q E h => ?_) (fun q_ f_ cdv A outer s H vs Q E hr h => ?_)
  · obtain ⟨F, _, _, _, rfl, _⟩ := h
    rfl
  · obtain ⟨F, v_tree, x_tree, x_place, rfl, P0, f_tree, hk⟩ := h
    have nd := sc_tied_to.nd
    have O := P0.start
    have tk : ∀ (cls : Value) (d : Option Addr) (σ : L2.St) (H : Hp), E cls d H → E cls d H := fun _ _ _ _ h => h
    refine ⟨_, pss_cons (ps_expr (pe_call G1 (hr.mono (by decide)) rfl M1 K1 B1 .nil (passes_call (takes_of rfl rfl rfl rfl) fun _ _ _ _ h => h) (pa_cons (pv 0) (pa_cons (pv 1) pa_nil))))
      (pss_one (ps_ret (pe_ix ix_list (pe_call G2 (hr.mono (by decide)) rfl M2 K2 B2 .nil (passes_call (takes_of rfl rfl rfl rfl) fun _ _ _ _ h => h)
        (pa_cons (pe_callB call_lenT (by rfl) nb.b_len PySem.boot_len (pa_cons (pe_ix ix_tup (pv 0) pe_int (fun _ _ => rfl)) pa_nil)) (pa_cons (pe_ix ix_tup (pv 0) pe_int (fun _ _ => rfl)) pa_nil))) (pv 1) (fun _ _ => rfl)))), ?_⟩
    refine ⟨_, rfl, _, rfl, _, _, _, _, rfl, O.pre0, f_tree, wp_call hk (fun r1 er1 hk F1 H1 g1 => ?_) (fun n hn C H1 hC kp => hn C H1 hC (O.kp0 kp))⟩
    have O1 := O.call0 g1
    have f_tree := f_tree.mono g1.f
    obtain ⟨p2, v1, v2, e2, h2, r1', r2'⟩ := R.t2_ f_tree
    cases e2
    obtain ⟨p3, w3, e3, h3, hl3⟩ := R.lst_ r1'
    cases e3
    refine ⟨_, rfl, _, _, _, _, rfl, rfl, SqTF O1.s h2, rfl, _, _, _, rfl, .inl (O1.s _ _ h3), hl3.len, _, rfl, _, _, _, _, rfl, rfl, SqTF O1.s h2, rfl, _, _, _, _, rfl, O1.pre0, r2', wp_call hk (fun r er hk F4 H4 p4 ps g4 L el => ?_) (fun n hn C H1 hC kp => hn C H1 hC (O1.kp0 kp))⟩
    obtain ⟨y, ey, hk⟩ := wp_opt hk
    subst el
    unfold atI at ey
    cases ei : ixN (ps.map (·.2)).length x_place with
    | none => rw [ei] at ey; cases ey
    | some j =>
      rw [ei] at ey
      obtain ⟨c, hc, rfl⟩ := tp_at ey
      refine ⟨_, rfl, _, _, _, _, rfl, rfl, SqL.of L.ph, tp_ix ei hc, ?_⟩
      have hm := List.mem_of_getElem? hc
      have hz : H c.1 = none := O1.was (L.qn c hm)
      have O4 := O1.call0 g4
      exact hk _ _ O4.g _ _ hz (L.qf c hm) (L.qh c hm) RL.of_ints

abbrev s_hung_from : Stmt := top 16
theorem sc_hung_from : FnScope ["tree", "seat", "found", "at", "place", "above", "other"] ["tree", "seat"] (defScope s_hung_from) := ⟨rfl, rfl, rfl, by decide +kernel, rfl, by decide +kernel, by decide +kernel⟩
def m_hung_from (x_tree : ((List Int) × (List (T3 Int Int Int)))) (x_seat : Int) : M ((List (Int × (Option Int)))) :=
whL (r := Unit) (fun (st24 : Int × (List (Int × (Option Int)))) =>
if st24.1 < (st24.2.length : Int) then (
opt (atI st24.2 st24.1) >>= fun y33 =>
m_tied_to x_tree y33.1 >>= fun r45 =>
compS (fun (y69 : Int) (st86 : Unit) =>
if (some y69) ≠ y33.2 then (
.ok (some (y69, (some y33.1)), ()))
else (
.ok (none, ()))) r45 () >>= fun q112 =>
chk (st24.2.length + q112.1.length < 16777216) >>= fun _ =>
.ok (.go ((st24.1 + (1 : Int)), (st24.2 ++ q112.1))))
else (
.ok (.stop (st24.1, st24.2)))) 1000000 ((0 : Int), [(x_seat, (none : (Option Int)))]) >>= fun f137 => match f137 with
| .rt _ => bad
| .nx st129 =>
.ok st129.2
def sp_hung_from (mg : Str → Option Value) : Sp := fun vs H Q E => ∃ (F : Hp) (v_tree : V) (x_tree : ((List Int) × (List (T3 Int Int Int)))) (x_seat : Int), vs = [v_tree, V.int x_seat] ∧ Pre F [] H ∧ R (a := ((List Int) × (List (T3 Int Int Int)))) F v_tree x_tree ∧
  wp (m_hung_from x_tree x_seat) (fun r => ∀ (F' H' : Hp), Gr [] F H F' H' → ∀ (p : Addr) (w : (List V)), H p = none → F' p = none → H' p = some (.lst w) → RL (a := (Int × (Option Int))) F' w r → Q (.ref p) H')
  (fun n => ∀ (C : Addr) (H' : Hp), mg (Str.ofString n) = some (.ref C) → Kp [] H H' → E (.ref C) none H')
set_option maxHeartbeats 20000000 in
theorem ok_hung_from (nb : Nb mg) (C_tied_to : Ca P w K mg base "tied_to" 2 ["tree", "place"] (sp_tied_to mg)) (D : Df K mg "hung_from" "hung_from" s_hung_from ["tree", "seat"]) : Ca P w K mg base "hung_from" 3 ["tree", "seat"] (sp_hung_from mg) := by
  obtain ⟨fa_tied_to, fd_tied_to, G_tied_to, M_tied_to, K_tied_to, B_tied_to⟩ := C_tied_to.ex
  refine Ca.mk' D sc_hung_from (fun vs H Q E h => ?_) (fun q_ f_ cdv A outer s H vs Q E hr h => ?_)
  · obtain ⟨F, _, _, _, rfl, _⟩ := h
    rfl
  · obtain ⟨F, v_tree, x_tree, x_seat, rfl, P0, f_tree, hk⟩ := h
    have nd := sc_hung_from.nd
    have hu64 := hr.units
    have hu128 := hu128_of hr
    have O := P0.start
    refine ⟨_, (pss_cons (ps_toN (ps_set (i := 2) nd rfl (Or.inl rfl) (pe_lst (pa_cons (pe_tup (pa_cons (pv 1) (pa_cons pe_non pa_nil))) pa_nil))))
  (pss_cons (ps_toN (ps_set (i := 3) nd rfl (Or.inl rfl) pe_int))
  (pss_cons (ps_while (passes_of rfl) (pt_cmpR op_lt (pv 3) (pe_callB call_lenT (by rfl) nb.b_len PySem.boot_len (pa_cons (pv 2) pa_nil)) (nomark _)) (pss_cons (ps_asg (pe_ix (ixListK (K := K) rfl) (pv 2) (pv 3) (fun _ _ => rfl)) (pg_tup rfl (pgs_cons (pg_name (i := 4) nd rfl (Or.inr rfl)) (pgs_cons (pg_name (i := 5) nd rfl (Or.inr rfl)) pgs_nil))))
  (pss_cons (ps_expr (bmK (K := K) rfl (pe_bm PySem.F.plainAttrs_list PySem.F.slot_list_extend PySem.F.type_list_extend mt_extend (pv 2) (pa_cons (pe_lc (own := [("other", 6)]) (g := gName 6) (tt := _) rfl nd (piListK (K := K) rfl (pe_call G_tied_to (hr.mono (by decide)) rfl M_tied_to K_tied_to B_tied_to .nil (passes_call (takes_of rfl rfl rfl rfl) fun _ _ _ _ h => h) (pa_cons (pv 0) (pa_cons (pv 4) pa_nil)))) (blkOk_by (own := [("other", 6)]) (N := ["tree", "seat", "found", "at", "place", "above", "other"]) (sc := defScope s_hung_from) (by decide +kernel)) (fun _ _ _ _ _ => (pg_name (i := 6) nd rfl (Or.inl rfl))) (fun _ _ _ _ _ => (pts_one (pt_cmpR (op_neT (Option Int) hu64) (pv 6) (pv 5) (nomark _)))) (fun _ _ _ _ _ => (pe_tup (pa_cons (pv 6) (pa_cons (pv 4) pa_nil))))) pa_nil))))
  (pss_one (ps_aug (i := 3) nd rfl (Or.inl rfl) pe_int ip_add)))))
  (pss_one (ps_ret (pv 2)))))), ?_⟩
    refine ⟨_, rfl, (by show 2 ≤ sizeLine; decide), fun p2 hp3 => ?_⟩
    obtain ⟨F4, O5, S6, h7⟩ := O.putE hp3 (.tup [V.int x_seat, V.non])
    have f_tree := f_tree.mono S6
    have h8 : R (a := (Int × (Option Int))) F4 (.ref p2) (x_seat, (none : (Option Int))) := R.t2 h7 R.int R.non
    refine ⟨(by show 1 ≤ sizeLine; decide), fun p9 hp10 => ?_⟩
    have hl12 : RL (a := (Int × (Option Int))) F4 ([V.ref p2]) ([(x_seat, (none : (Option Int)))]) := RL.cons h8 RL.nil
    have z13 := O5.was hp10
    have O11 := O5.new (o := .lst ([V.ref p2])) hp10
    obtain ⟨L14, X15, hL16, hLs17, hLd18⟩ := whL_L hk
    refine ⟨[some v_tree, some (V.int x_seat), some (V.ref p9), none, none, none, none], rfl, [some v_tree, some (V.int x_seat), some (V.ref p9), some (V.int (0 : Int)), none, none, none], rfl, ?_⟩
    refine while_P (fun n σ H_ => ∃ (F_ : Hp) (st : Int × (List (Int × (Option Int)))) (w_0 : (List V)) (t_0 : Option V) (t_1 : Option V), σ = [some v_tree, some (V.int x_seat), some (V.ref p9), some (V.int st.1), t_0, t_1, none] ∧ Same F4 F_ ∧ Ow (⟨[], F, H⟩ : Ent) F_ [(p9, .lst w_0)] H_ ∧ RL (a := (Int × (Option Int))) F_ w_0 st.2 ∧ L14 n st) (fun σ H_ => ∃ (F_ : Hp) (st : Int × (List (Int × (Option Int)))) (w_0 : (List V)) (t_0 : Option V) (t_1 : Option V), σ = [some v_tree, some (V.int x_seat), some (V.ref p9), some (V.int st.1), t_0, t_1, none] ∧ Same F4 F_ ∧ Ow (⟨[], F, H⟩ : Ent) F_ [(p9, .lst w_0)] H_ ∧ RL (a := (Int × (Option Int))) F_ w_0 st.2 ∧ X15 st) 1000000 ⟨F4, ((0 : Int), [(x_seat, (none : (Option Int)))]), [V.ref p2], none, none, rfl, Same.refl _, O11, hl12, hL16⟩ ?_ ?_
    rotate_left
    · rintro hex19 m20 sg21 H22 ⟨F30, st24, w26, t28, t29, rfl, S23, O31, hl27, hL25⟩
      have f_tree := f_tree.mono S23
      have h8 := h8.mono S23
      have hk := hLs17 _ _ hL25
      refine ⟨_, rfl, _, rfl, _, _, _, rfl, (.inl (O31.at 0 rfl)), hl27.len, _, _, rfl, rfl, _, rfl, ?_⟩
      refine iteD (fun q32 => ?_) (fun q32 => ?_)
      · have hk := wp_if hk q32
        obtain ⟨y33, e34, hk⟩ := wp_opt hk
        obtain ⟨w35, e36, r37⟩ := hl27.atI e34
        obtain ⟨p38, v41, v42, e39, h40, r43, r44⟩ := R.t2_ r37
        cases e39
        obtain rfl := R.int_ r43
        refine ⟨_, (fun _ _ h_ => h_), _, rfl, _, rfl, _, _, _, _, rfl, rfl, (SqL.of (O31.at 0 rfl)), e36, _, _, rfl, (SqTF O31.s h40), rfl, _, _, rfl, _, _, rfl, rfl, _, rfl, (.inl ⟨rfl, _, SqL.of (O31.at 0 rfl)⟩), _, rfl, _, rfl, _, _, _, _, rfl, O31.pre0, f_tree, wp_call hk (fun r45 er46 hk F47 H48 g49 p50 w51 hn52 hf53 h54 hl55 => ?_) (fun n hn C H1 hC kp => hn C H1 hC (O31.kp0 kp))⟩
        have O56 := O31.call0 g49
        have S_ := g49.f
        have f_tree := f_tree.mono S_
        have h8 := h8.mono S_
        have hl27 := hl27.mono S_
        have S23 := S23.trans S_
        have r37 := r37.mono S_
        have h40 := S_ _ _ h40
        have r44 := r44.mono S_
        have O57 := O31.got O56 rfl hn52 hf53 h54
        have z58 := O31.was hn52
        obtain ⟨F59, O60, S61, h62⟩ := O57.frzE 0 rfl z58
        have f_tree := f_tree.mono S61
        have h8 := h8.mono S61
        have hl27 := hl27.mono S61
        have S23 := S23.trans S61
        have r37 := r37.mono S61
        have h40 := S61 _ _ h40
        have r44 := r44.mono S61
        have hl55 := hl55.mono S61
        have h63 := R.lst (a := Int) h62 hl55
        obtain ⟨p64, w65, e66, h67, hl68⟩ := R.lst_ h63
        cases e66
        obtain ⟨c74, L70, hL71, hLs72, hLd73⟩ := compS_L hk
        refine ⟨_, rfl, ⟨_, (SqLF O60.s h67)⟩, fun p75 hp76 => ?_⟩
        have z101 := O60.was hp76
        refine lc_list (K := K) (xs := w65) (fun i H => ∃ (F_ : Hp) (st : Unit) (acc : List (Int × (Option Int))) (wa : List V), Same F59 F_ ∧ Ow _ F_ [(p75, .lst wa), (p9, .lst w26)] H ∧ RL F_ wa acc ∧ wa.length ≤ i ∧ L70 (List.drop i r45) acc st) ⟨F59, (), [], [], Same.refl _, O60.new hp76, RL.nil, Nat.zero_le _, hL71⟩ (fun i_ H_ _ hp_ => ?_) ?_ ?_
        · obtain ⟨_, _, _, _, hS_, hO_, _⟩ := hp_
          exact SqLF hO_.s (hS_ _ _ h67)
        · rintro i77 x78 H79 hi80 ⟨F85, st86, acc82, wa83, S87, O89, hl88, la84, hL71⟩
          have f_tree := f_tree.mono S87
          have h8 := h8.mono S87
          have hl27 := hl27.mono S87
          have S23 := S23.trans S87
          have r37 := r37.mono S87
          have h40 := S87 _ _ h40
          have r44 := r44.mono S87
          have h63 := h63.mono S87
          have h67 := S87 _ _ h67
          have hl68 := hl68.mono S87
          obtain ⟨y69, e90, r91⟩ := RL.got hl68 hi80
          rw [drop_at e90] at hL71
          have hk := hLs72 _ _ _ _ hL71
          obtain rfl := R.int_ r91
          refine ⟨rfl, _, rfl, _, rfl, _, _, (R.mono (R.jst R.int) O89.s), (R.mono r44 O89.s), _, rfl, ?_⟩
          refine iteD (fun q92 => ?_) (fun q92 => ?_)
          · have hk := wp_if hk q92
            refine ⟨_, rfl, _, rfl, (by show 2 ≤ sizeLine; decide), fun p93 hp94 => ?_⟩
            have h100 := (show R (a := (Option Int)) F85 (V.int y33.1) (some y33.1) from (R.jst R.int))
            obtain ⟨F95, O96, S97, h98⟩ := O89.putE hp94 (.tup [V.int y69, V.int y33.1])
            have f_tree := f_tree.mono S97
            have h8 := h8.mono S97
            have hl27 := hl27.mono S97
            have S23 := S23.trans S97
            have r37 := r37.mono S97
            have h40 := S97 _ _ h40
            have r44 := r44.mono S97
            have h63 := h63.mono S97
            have h67 := S97 _ _ h67
            have hl68 := hl68.mono S97
            have S87 := S87.trans S97
            have hl88 := hl88.mono S97
            have h100 := h100.mono S97
            have h99 : R (a := (Int × (Option Int))) F95 (.ref p93) (y69, (some y33.1)) := R.t2 h98 R.int h100
            refine ⟨_, (O96.at 0 rfl), (comp_len la84 hi80 hl68.len c74), ?_⟩
            exact ⟨F95, (), acc82 ++ [(y69, (some y33.1))], wa83 ++ [V.ref p93], S87, O96.set 0 (.lst (wa83 ++ [V.ref p93])) rfl, RL.snoc hl88 h99, by rw [List.length_append]; exact Nat.succ_le_succ la84, hk⟩
          · have hk := wp_el hk q92
            exact ⟨F85, (), acc82, wa83, S87, O89, hl88, Nat.le_succ_of_le la84, hk⟩
        rintro H102 ⟨F103, st104, acc105, wa106, S107, O108, hl109, la110, hL111⟩
        rw [drop_end hl68.len] at hL111
        have hk := hLd73 _ _ hL111
        have f_tree := f_tree.mono S107
        have h8 := h8.mono S107
        have hl27 := hl27.mono S107
        have S23 := S23.trans S107
        have r37 := r37.mono S107
        have h40 := S107 _ _ h40
        have r44 := r44.mono S107
        have h63 := h63.mono S107
        have h67 := S107 _ _ h67
        have hl68 := hl68.mono S107
        obtain ⟨F113, O114, S115, h116⟩ := O108.frzE 0 rfl z101
        have f_tree := f_tree.mono S115
        have h8 := h8.mono S115
        have hl27 := hl27.mono S115
        have S23 := S23.trans S115
        have r37 := r37.mono S115
        have h40 := S115 _ _ h40
        have r44 := r44.mono S115
        have h63 := h63.mono S115
        have h67 := S115 _ _ h67
        have hl68 := hl68.mono S115
        have hl109 := hl109.mono S115
        have h117 := R.lst (a := (Int × (Option Int))) h116 hl109
        obtain ⟨p118, w119, e120, h121, hl122⟩ := R.lst_ h117
        cases e120
        obtain ⟨c123, hk⟩ := wp_chk hk
        refine ⟨_, _, _, _, rfl, rfl, (O114.at 0 rfl), (O114.s _ _ h121), (by rw [hl27.len, hl122.len]; exact le_line c123), ?_⟩
        have O124 := O114.set 0 (.lst (w26 ++ w119)) rfl
        have hl125 : RL (a := (Int × (Option Int))) F113 (w26 ++ w119) (st24.2 ++ acc105) := RL.app hl27 hl122
        refine ⟨_, rfl, _, _, rfl, rfl, ?_⟩
        obtain ⟨m_, hm_, hk⟩ := hk
        exact ⟨m_, hm_, F113, ((st24.1 + (1 : Int)), (st24.2 ++ acc105)), (w26 ++ w119), some (V.int y33.1), some v42, rfl, S23, O124, hl125, hk⟩
      · have hk := wp_el hk q32
        exact hex19 _ _ ⟨F30, (st24.1, st24.2), w26, t28, t29, rfl, S23, O31, hl27, hk⟩
    rintro sg126 H127 ⟨F135, st129, w131, t133, t134, rfl, S128, O136, hl132, hL130⟩
    have hk := hLd18 _ hL130
    have f_tree := f_tree.mono S128
    have h8 := h8.mono S128
    refine ⟨_, rfl, ?_⟩
    exact hk _ _  O136.g  _ _ z13 (O136.cf _ (List.mem_of_getElem? (i := 0) rfl)) (O136.at 0 rfl) hl132
abbrev s_put_together : Stmt := top 18
theorem sc_put_together : FnScope ["sums", "place", "begin", "more", "so"] ["sums", "place", "begin", "more"] (defScope s_put_together) := ⟨rfl, rfl, rfl, by decide +kernel, rfl, by decide +kernel, by decide +kernel⟩
def m_put_together (x_sums : (List (Int × (Option Int)))) (x_place : Int) (x_begin : Int) (x_more : (Option Int)) : M ((List (Int × (Option Int)))) :=
setdD x_sums x_place (some x_begin) >>= fun t8 =>
if (Option.isNone t8.1) = true then (
putD t8.2 x_place (none : (Option Int)) >>= fun z13 =>
.ok z13)
else (
opt t8.1 >>= fun y16 =>
if (Option.isNone x_more) = true then (
putD t8.2 x_place (none : (Option Int)) >>= fun z21 =>
.ok z21)
else (
opt x_more >>= fun y24 =>
putD t8.2 x_place (some (y16 + y24)) >>= fun z28 =>
.ok z28))
def sp_put_together (mg : Str → Option Value) : Sp := fun vs H Q E => ∃ (F : Hp) (a_sums : Addr) (w_sums : (List (Key × V))) (x_sums : (List (Int × (Option Int)))) (x_place : Int) (x_begin : Int) (v_more : V) (x_more : (Option Int)), vs = [.ref a_sums, V.int x_place, V.int x_begin, v_more] ∧ Pre F [(a_sums, .dK w_sums)] H ∧ RD (κ := Int) (β := (Option Int)) F w_sums x_sums ∧ R (a := (Option Int)) F v_more x_more ∧
  wp (m_put_together x_sums x_place x_begin x_more) (fun r => ∀ (F' H' : Hp) (w0 : (List (Key × V))), Gr [a_sums] F H F' H' → H' a_sums = some (.dK w0) → RD (κ := Int) (β := (Option Int)) F' w0 r → Q .non H')
  (fun n => ∀ (C : Addr) (H' : Hp), mg (Str.ofString n) = some (.ref C) → Kp [a_sums] H H' → E (.ref C) none H')
set_option maxHeartbeats 20000000 in
theorem ok_put_together (nb : Nb mg) (D : Df K mg "put_together" "put_together" s_put_together ["sums", "place", "begin", "more"]) : Ca P w K mg base "put_together" 1 ["sums", "place", "begin", "more"] (sp_put_together mg) := by
  refine Ca.mk' D sc_put_together (fun vs H Q E h => ?_) (fun q_ f_ cdv A outer s H vs Q E hr h => ?_)
  · obtain ⟨F, _, _, _, _, _, _, _, rfl, _⟩ := h
    rfl
  · obtain ⟨F, a_sums, w_sums, x_sums, x_place, x_begin, v_more, x_more, rfl, P0, f_sums, f_more, hk⟩ := h
    have nd := sc_put_together.nd
    have hu64 := hr.units
    have hu128 := hu128_of hr
    have O := P0.start
    refine ⟨_, (pss_cons (ps_toN (ps_set (i := 4) nd rfl (Or.inl rfl) (pe_dsetdX (pv 0) (pv 1) (pv 2) ⟨rfl, rfl, rfl, rfl⟩)))
  (pss_one (ps_if (PW.pt (pw_or (pt_cmpR op_isN (pv 4) pe_non (nomark _)) (pw_or1 (pt_cmpR op_isN (pv 3) pe_non (nomark _))))) (pss_one (ps_dput (u1_of hu64) (pv 0) (pv 1) pe_non rfl)) (pss_one (ps_dput (u1_of hu64) (pv 0) (pv 1) (pe_op op_add (pv 4) (pv 3)) rfl))))), ?_⟩
    obtain ⟨c1, hk⟩ := wp_setdD hk
    obtain ⟨v2, w3, hl4, r5, h6, h7⟩ := setd_ok f_sums x_place (R.jst R.int)
    refine ⟨_, rfl, _, rfl, (.inl ⟨_, .inl (O.at 0 rfl)⟩), _, rfl, _, rfl, _, _, _, _, (O.at 0 rfl), rfl, (by rw [RD.len f_sums]; exact c1), h6, h7, ?_⟩
    have O9 := O.set 0 (.dK (w3)) rfl
    have hl10 : RD (κ := Int) (β := (Option Int)) F (w3) (dSetd x_sums x_place (some x_begin)) := hl4
    refine ⟨[some (V.ref a_sums), some (V.int x_place), some (V.int x_begin), some v_more, some v2], rfl, _, rfl, rfl, _, rfl, ?_⟩
    rw [isN_opt (F := F) (r5)]
    refine iteB (fun q11 => ?_) (fun q11 => ?_)
    · have hk := wp_if hk q11
      refine iteT ?_
      obtain ⟨c12, hk⟩ := wp_putD hk
      refine ⟨_, rfl, _, rfl, _, _, rfl, (dput_I (v := V.non) (O9.at 0 rfl) (by rw [RD.len hl10]; exact c12)), ?_⟩
      have O14 := O9.set 0 (.dK (putK (w3) (DK.kk x_place) V.non)) rfl
      have hl15 : RD (κ := Int) (β := (Option Int)) F (putK (w3) (DK.kk x_place) V.non) (dPut (dSetd x_sums x_place (some x_begin)) x_place (none : (Option Int))) := RD.put hl10 x_place R.non
      exact hk _ _ (putK (w3) (DK.kk x_place) V.non) O14.g (O14.at 0 rfl) hl15
    · have hk := wp_el hk q11
      obtain ⟨y16, e17, hk⟩ := wp_opt hk
      have r18 : R (a := Int) F v2 y16 := R.jst_ (by rw [← e17]; exact r5)
      obtain rfl := R.int_ r18
      refine ⟨_, rfl, rfl, _, rfl, ?_⟩
      rw [isN_opt (F := F) (f_more)]
      refine iteB (fun q19 => ?_) (fun q19 => ?_)
      · have hk := wp_if hk q19
        obtain ⟨c20, hk⟩ := wp_putD hk
        refine ⟨_, rfl, _, rfl, _, _, rfl, (dput_I (v := V.non) (O9.at 0 rfl) (by rw [RD.len hl10]; exact c20)), ?_⟩
        have O22 := O9.set 0 (.dK (putK (w3) (DK.kk x_place) V.non)) rfl
        have hl23 : RD (κ := Int) (β := (Option Int)) F (putK (w3) (DK.kk x_place) V.non) (dPut (dSetd x_sums x_place (some x_begin)) x_place (none : (Option Int))) := RD.put hl10 x_place R.non
        exact hk _ _ (putK (w3) (DK.kk x_place) V.non) O22.g (O22.at 0 rfl) hl23
      · have hk := wp_el hk q19
        obtain ⟨y24, e25, hk⟩ := wp_opt hk
        have r26 : R (a := Int) F v_more y24 := R.jst_ (by rw [← e25]; exact f_more)
        obtain rfl := R.int_ r26
        obtain ⟨c27, hk⟩ := wp_putD hk
        refine ⟨_, rfl, _, rfl, _, _, rfl, rfl, _, rfl, _, rfl, _, _, rfl, (dput_I (v := (V.int (y16 + y24))) (O9.at 0 rfl) (by rw [RD.len hl10]; exact c27)), ?_⟩
        have O29 := O9.set 0 (.dK (putK (w3) (DK.kk x_place) (V.int (y16 + y24)))) rfl
        have hl30 : RD (κ := Int) (β := (Option Int)) F (putK (w3) (DK.kk x_place) (V.int (y16 + y24))) (dPut (dSetd x_sums x_place (some x_begin)) x_place (some (y16 + y24))) := RD.put hl10 x_place (R.jst R.int)
        exact hk _ _ (putK (w3) (DK.kk x_place) (V.int (y16 + y24))) O29.g (O29.at 0 rfl) hl30
abbrev s_greatest_apart : Stmt := top 17
theorem sc_greatest_apart : FnScope ["tree", "order", "held", "barred", "within", "without", "place", "above", "with_it", "without_it", "some", "one"] ["tree", "order", "held", "barred"] (defScope s_greatest_apart) := ⟨rfl, rfl, rfl, by decide +kernel, rfl, by decide +kernel, by decide +kernel⟩
def m_greatest_apart (x_tree : ((List Int) × (List (T3 Int Int Int)))) (x_order : (List (Int × (Option Int)))) (x_held : (List Int)) (x_barred : (List Int)) : M ((Option Int)) :=
loopM (fun (y31 : (Int × (Option Int))) (st42 : (List (Int × (Option Int))) × (List (Int × (Option Int)))) =>
opt (atI x_tree.1 y31.1) >>= fun y75 =>
setdD st42.1 y31.1 (some y75) >>= fun t87 =>
setdD st42.2 y31.1 (some (0 : Int)) >>= fun t97 =>
if y31.1 ∈ x_barred then (
if y31.1 ∈ x_held then (
compS (fun (y127 : (Option Int)) (st144 : Unit) =>
if (Option.isNone y127) = true then (
.ok (none, ()))
else (
opt y127 >>= fun y151 =>
.ok (some y151, ()))) ([((none : (Option Int)), (none : (Option Int))).1, ((none : (Option Int)), (none : (Option Int))).2]) () >>= fun q165 =>
if (Option.isNone y31.2) = true then (
if q165.1 ≠ ([] : List Int) then (
opt (mxI q165.1) >>= fun y186 =>
.ok (.rt (some y186)))
else (
.ok (.rt (none : (Option Int)))))
else (
opt y31.2 >>= fun y192 =>
opt (atI x_tree.1 y192) >>= fun y200 =>
m_put_together t87.2 y192 y200 (none : (Option Int)) >>= fun r205 =>
if q165.1 ≠ ([] : List Int) then (
opt (mxI q165.1) >>= fun y228 =>
m_put_together t97.2 y192 (0 : Int) (some y228) >>= fun r234 =>
.ok (.nx (r205, r234)))
else (
m_put_together t97.2 y192 (0 : Int) (none : (Option Int)) >>= fun r243 =>
.ok (.nx (r205, r243)))))
else (
compS (fun (y267 : (Option Int)) (st284 : Unit) =>
if (Option.isNone y267) = true then (
.ok (none, ()))
else (
opt y267 >>= fun y291 =>
.ok (some y291, ()))) ([((none : (Option Int)), t97.1).1, ((none : (Option Int)), t97.1).2]) () >>= fun q305 =>
if (Option.isNone y31.2) = true then (
if q305.1 ≠ ([] : List Int) then (
opt (mxI q305.1) >>= fun y326 =>
.ok (.rt (some y326)))
else (
.ok (.rt (none : (Option Int)))))
else (
opt y31.2 >>= fun y332 =>
opt (atI x_tree.1 y332) >>= fun y340 =>
m_put_together t87.2 y332 y340 t97.1 >>= fun r345 =>
if q305.1 ≠ ([] : List Int) then (
opt (mxI q305.1) >>= fun y368 =>
m_put_together t97.2 y332 (0 : Int) (some y368) >>= fun r374 =>
.ok (.nx (r345, r374)))
else (
m_put_together t97.2 y332 (0 : Int) (none : (Option Int)) >>= fun r383 =>
.ok (.nx (r345, r383))))))
else (
if y31.1 ∈ x_held then (
compS (fun (y413 : (Option Int)) (st430 : Unit) =>
if (Option.isNone y413) = true then (
.ok (none, ()))
else (
opt y413 >>= fun y437 =>
.ok (some y437, ()))) ([(t87.1, (none : (Option Int))).1, (t87.1, (none : (Option Int))).2]) () >>= fun q451 =>
if (Option.isNone y31.2) = true then (
if q451.1 ≠ ([] : List Int) then (
opt (mxI q451.1) >>= fun y472 =>
.ok (.rt (some y472)))
else (
.ok (.rt (none : (Option Int)))))
else (
opt y31.2 >>= fun y478 =>
opt (atI x_tree.1 y478) >>= fun y486 =>
m_put_together t87.2 y478 y486 (none : (Option Int)) >>= fun r491 =>
if q451.1 ≠ ([] : List Int) then (
opt (mxI q451.1) >>= fun y514 =>
m_put_together t97.2 y478 (0 : Int) (some y514) >>= fun r520 =>
.ok (.nx (r491, r520)))
else (
m_put_together t97.2 y478 (0 : Int) (none : (Option Int)) >>= fun r529 =>
.ok (.nx (r491, r529)))))
else (
compS (fun (y553 : (Option Int)) (st570 : Unit) =>
if (Option.isNone y553) = true then (
.ok (none, ()))
else (
opt y553 >>= fun y577 =>
.ok (some y577, ()))) ([(t87.1, t97.1).1, (t87.1, t97.1).2]) () >>= fun q591 =>
if (Option.isNone y31.2) = true then (
if q591.1 ≠ ([] : List Int) then (
opt (mxI q591.1) >>= fun y612 =>
.ok (.rt (some y612)))
else (
.ok (.rt (none : (Option Int)))))
else (
opt y31.2 >>= fun y618 =>
opt (atI x_tree.1 y618) >>= fun y626 =>
m_put_together t87.2 y618 y626 t97.1 >>= fun r631 =>
if q591.1 ≠ ([] : List Int) then (
opt (mxI q591.1) >>= fun y654 =>
m_put_together t97.2 y618 (0 : Int) (some y654) >>= fun r660 =>
.ok (.nx (r631, r660)))
else (
m_put_together t97.2 y618 (0 : Int) (none : (Option Int)) >>= fun r669 =>
.ok (.nx (r631, r669))))))) (x_order.reverse) (([] : (List (Int × (Option Int)))), ([] : (List (Int × (Option Int))))) >>= fun f694 => match f694 with
| .rt z_ => .ok z_
| .nx st681 =>
.ok (none : (Option Int))
def sp_greatest_apart (mg : Str → Option Value) : Sp := fun vs H Q E => ∃ (F : Hp) (v_tree : V) (x_tree : ((List Int) × (List (T3 Int Int Int)))) (v_order : V) (x_order : (List (Int × (Option Int)))) (v_held : V) (x_held : (List Int)) (v_barred : V) (x_barred : (List Int)), vs = [v_tree, v_order, v_held, v_barred] ∧ Pre F [] H ∧ R (a := ((List Int) × (List (T3 Int Int Int)))) F v_tree x_tree ∧ R (a := (List (Int × (Option Int)))) F v_order x_order ∧ R (a := (List Int)) F v_held x_held ∧ R (a := (List Int)) F v_barred x_barred ∧
  wp (m_greatest_apart x_tree x_order x_held x_barred) (fun r => ∀ (F' H' : Hp), Gr [] F H F' H' → ∀ v : V, R (a := (Option Int)) F' v r → Q v H')
  (fun n => ∀ (C : Addr) (H' : Hp), mg (Str.ofString n) = some (.ref C) → Kp [] H H' → E (.ref C) none H')
set_option maxHeartbeats 20000000 in
theorem ok_greatest_apart (nb : Nb mg) (C_put_together : Ca P w K mg base "put_together" 1 ["sums", "place", "begin", "more"] (sp_put_together mg)) (D : Df K mg "greatest_apart" "greatest_apart" s_greatest_apart ["tree", "order", "held", "barred"]) : Ca P w K mg base "greatest_apart" 2 ["tree", "order", "held", "barred"] (sp_greatest_apart mg) := by
  obtain ⟨fa_put_together, fd_put_together, G_put_together, M_put_together, K_put_together, B_put_together⟩ := C_put_together.ex
  refine Ca.mk' D sc_greatest_apart (fun vs H Q E h => ?_) (fun q_ f_ cdv A outer s H vs Q E hr h => ?_)
  · obtain ⟨F, _, _, _, _, _, _, _, _, rfl, _⟩ := h
    rfl
  · obtain ⟨F, v_tree, x_tree, v_order, x_order, v_held, x_held, v_barred, x_barred, rfl, P0, f_tree, f_order, f_held, f_barred, hk⟩ := h
    have nd := sc_greatest_apart.nd
    have hu64 := hr.units
    have hu128 := hu128_of hr
    have O := P0.start
    refine ⟨_, (pss_cons (ps_toN (ps_set (i := 4) nd rfl (Or.inl rfl) pe_dnewK))
  (pss_cons (ps_toN (ps_set (i := 5) nd rfl (Or.inl rfl) pe_dnewK))
  (pss_cons (ps_for (passes_of rfl) rfl (piListK (K := K) rfl (pe_revLK (K := K) rfl (pv 1))) (pg_tup rfl (pgs_cons (pg_name (i := 6) nd rfl (Or.inl rfl)) (pgs_cons (pg_name (i := 7) nd rfl (Or.inl rfl)) pgs_nil))) (pss_cons (ps_toN (ps_set (i := 8) nd rfl (Or.inl rfl) (pe_dsetdX (pv 4) (pv 6) (pe_ix (ixListK (K := K) rfl) (pe_ix (ixTupK (K := K) rfl) (pv 0) pe_int (fun _ _ => rfl)) (pv 6) (fun _ _ => rfl)) ⟨rfl, rfl, rfl, rfl⟩)))
  (pss_cons (ps_toN (ps_set (i := 9) nd rfl (Or.inl rfl) (pe_dsetdX (pv 5) (pv 6) pe_int ⟨rfl, rfl, rfl, rfl⟩)))
  (pss_cons (ps_if (pt_cmpR (op_inT Int hu64) (pv 6) (pv 3) rfl) (pss_one (ps_toN (ps_set (i := 8) nd rfl (Or.inl rfl) pe_non))) pss_nil)
  (pss_cons (ps_if (pt_cmpR (op_inT Int hu64) (pv 6) (pv 2) rfl) (pss_one (ps_toN (ps_set (i := 9) nd rfl (Or.inl rfl) pe_non))) pss_nil)
  (pss_cons (ps_toN (ps_setLc (i := 10) (own := [("one", 11)]) (g := gName 11) (tt := _) rfl nd rfl rfl (sw_true rfl rfl rfl (by decide +kernel)) (piTupK (K := K) rfl (pe_tup (pa_cons (pv 8) (pa_cons (pv 9) pa_nil)))) (blkOk_by (own := [("one", 11)]) (N := ["tree", "order", "held", "barred", "within", "without", "place", "above", "with_it", "without_it", "some", "one"]) (sc := defScope s_greatest_apart) (by decide +kernel)) (fun _ _ _ _ _ => (pg_name (i := 11) nd rfl (Or.inl rfl))) (fun _ _ _ _ _ => (pts_one (pt_cmpR op_notN (pv 11) pe_non (nomark _)))) (fun _ _ _ _ _ => (pv 11))))
  (pss_cons (ps_if (pt_cmpR op_isN (pv 7) pe_non (nomark _)) (pss_one (ps_ret (pe_ifExp (pt_cmpR (op_neT (List Int) hu64) (pv 10) (pe_lst pa_nil) (nomark _)) (pe_callB (cr_maxK (K := K) rfl rfl) (by rfl) nb.b_max (by decide +kernel) (pa_cons (pv 10) pa_nil)) pe_non))) pss_nil)
  (pss_cons (ps_expr (pe_call G_put_together (hr.mono (by decide)) rfl M_put_together K_put_together B_put_together .nil (passes_call (takes_of rfl rfl rfl rfl) fun _ _ _ _ h => h) (pa_cons (pv 4) (pa_cons (pv 7) (pa_cons (pe_ix (ixListK (K := K) rfl) (pe_ix (ixTupK (K := K) rfl) (pv 0) pe_int (fun _ _ => rfl)) (pv 7) (fun _ _ => rfl)) (pa_cons (pv 9) pa_nil))))))
  (pss_one (ps_expr (pe_call G_put_together (hr.mono (by decide)) rfl M_put_together K_put_together B_put_together .nil (passes_call (takes_of rfl rfl rfl rfl) fun _ _ _ _ h => h) (pa_cons (pv 5) (pa_cons (pv 7) (pa_cons pe_int (pa_cons (pe_ifExp (pt_cmpR (op_neT (List Int) hu64) (pv 10) (pe_lst pa_nil) (nomark _)) (pe_callB (cr_maxK (K := K) rfl rfl) (by rfl) nb.b_max (by decide +kernel) (pa_cons (pv 10) pa_nil)) pe_non) pa_nil)))))))))))))))
  (pss_one (ps_ret pe_non))))), ?_⟩
    refine fun p2 hp3 => ?_
    have hl5 : RD (κ := Int) (β := (Option Int)) F [] ([] : (List (Int × (Option Int)))) := RD.nil
    have z6 := O.was hp3
    have O4 := O.new (o := .dK []) hp3
    refine ⟨[some v_tree, some v_order, some v_held, some v_barred, some (V.ref p2), none, none, none, none, none, none, none], rfl, fun p8 hp9 => ?_⟩
    have hl11 : RD (κ := Int) (β := (Option Int)) F [] ([] : (List (Int × (Option Int)))) := RD.nil
    have z12 := O4.was hp9
    have O10 := O4.new (o := .dK []) hp9
    obtain ⟨p13, w14, e15, h16, hl17⟩ := R.lst_ f_order
    cases e15
    refine ⟨[some v_tree, some (V.ref p13), some v_held, some v_barred, some (V.ref p2), some (V.ref p8), none, none, none, none, none, none], rfl, _, rfl, _, _, rfl, (SqLF O10.s h16), fun p18 hp19 => ?_⟩
    have hl25 : RL (a := (Int × (Option Int))) F w14.reverse (x_order.reverse) := RL.rev hl17
    obtain ⟨F20, O21, S22, h23⟩ := O10.putE hp19 (.lst w14.reverse)
    have f_tree := f_tree.mono S22
    have f_order := f_order.mono S22
    have f_held := f_held.mono S22
    have f_barred := f_barred.mono S22
    have hl5 := hl5.mono S22
    have hl11 := hl11.mono S22
    have h16 := S22 _ _ h16
    have hl17 := hl17.mono S22
    have hl25 := hl25.mono S22
    have h24 := R.lst (a := (Int × (Option Int))) h23 hl25
    obtain ⟨p26, w27, e28, h29, hl30⟩ := R.lst_ h24
    cases e28
    obtain ⟨L32, hL33, hLs34, hLd35⟩ := loopM_L hk
    refine ⟨_, rfl, ⟨_, (SqLF O21.s h29)⟩, ?_⟩
    refine for_list (K := K) (xs := w27) (fun i σ H_ => ∃ (F_ : Hp) (st : (List (Int × (Option Int))) × (List (Int × (Option Int)))) (w_0 : (List (Key × V))) (w_1 : (List (Key × V))) (t_0 : Option V) (t_1 : Option V) (t_2 : Option V) (t_3 : Option V) (t_4 : Option V), σ = [some v_tree, some (V.ref p13), some v_held, some v_barred, some (V.ref p2), some (V.ref p8), t_0, t_1, t_2, t_3, t_4, none] ∧ Same F20 F_ ∧ Ow _ F_ [(p8, .dK w_1), (p2, .dK w_0)] H_ ∧ RD (κ := Int) (β := (Option Int)) F_ w_0 st.1 ∧ RD (κ := Int) (β := (Option Int)) F_ w_1 st.2 ∧ L32 (List.drop i (x_order.reverse)) st) ⟨F20, (([] : (List (Int × (Option Int)))), ([] : (List (Int × (Option Int))))), [], [], none, none, none, none, none, rfl, Same.refl _, O21, hl5, hl11, hL33⟩ (fun i_ σ_ H_ _ hp_ => ?_) ?_ ?_
    · obtain ⟨_, _, _, _, _, _, _, _, _, _, hS_, hO_, _⟩ := hp_
      exact SqLF hO_.s (hS_ _ _ h29)
    · rintro i36 x37 sg38 H39 hi40 ⟨F52, st42, w43, w44, t47, t48, t49, t50, t51, rfl, S41, O53, hl45, hl46, hL33⟩
      have f_tree := f_tree.mono S41
      have f_order := f_order.mono S41
      have f_held := f_held.mono S41
      have f_barred := f_barred.mono S41
      have h16 := S41 _ _ h16
      have hl17 := hl17.mono S41
      have h24 := h24.mono S41
      have h29 := S41 _ _ h29
      have hl30 := hl30.mono S41
      obtain ⟨y31, e54, r55⟩ := RL.got hl30 hi40
      rw [drop_at e54] at hL33
      have hk := hLs34 _ _ _ hL33
      obtain ⟨p56, v59, v60, e57, h58, r61, r62⟩ := R.t2_ r55
      cases e57
      obtain rfl := R.int_ r61
      obtain ⟨p63, v66, v67, e64, h65, r68, r69⟩ := R.t2_ f_tree
      cases e64
      obtain ⟨p70, w71, e72, h73, hl74⟩ := R.lst_ r68
      cases e72
      obtain ⟨y75, e76, hk⟩ := wp_opt hk
      obtain ⟨w77, e78, r79⟩ := hl74.atI e76
      obtain rfl := R.int_ r79
      obtain ⟨c80, hk⟩ := wp_setdD hk
      obtain ⟨v81, w82, hl83, r84, h85, h86⟩ := setd_ok hl45 y31.1 (R.jst R.int)
      refine ⟨_, _, rfl, (SqTF O53.s h58), rfl, _, _, rfl, _, _, rfl, rfl, _, rfl, _, rfl, (.inl ⟨_, .inl (O53.at 1 rfl)⟩), _, rfl, _, rfl, _, _, _, _, rfl, rfl, (SqTF O53.s h65), rfl, _, rfl, _, _, _, _, rfl, rfl, (SqLF O53.s h73), e78, _, _, _, _, (O53.at 1 rfl), rfl, (by rw [RD.len hl45]; exact c80), h85, h86, ?_⟩
      have O88 := O53.set 1 (.dK (w82)) rfl
      have hl89 : RD (κ := Int) (β := (Option Int)) F52 (w82) (dSetd st42.1 y31.1 (some y75)) := hl83
      obtain ⟨c90, hk⟩ := wp_setdD hk
      obtain ⟨v91, w92, hl93, r94, h95, h96⟩ := setd_ok hl46 y31.1 (R.jst R.int)
      refine ⟨[some (V.ref p63), some (V.ref p13), some v_held, some v_barred, some (V.ref p2), some (V.ref p8), some (V.int y31.1), some v60, some v81, t50, t51, none], rfl, _, rfl, _, rfl, (.inl ⟨_, .inl (O88.at 0 rfl)⟩), _, rfl, _, _, _, _, (O88.at 0 rfl), rfl, (by rw [RD.len hl46]; exact c90), h95, h96, ?_⟩
      have O98 := O88.set 0 (.dK (w92)) rfl
      have hl99 : RD (κ := Int) (β := (Option Int)) F52 (w92) (dSetd st42.2 y31.1 (some (0 : Int))) := hl93
      obtain ⟨p100, w101, e102, h103, hl104⟩ := R.lst_ f_barred
      cases e102
      refine ⟨[some (V.ref p63), some (V.ref p13), some v_held, some (V.ref p100), some (V.ref p2), some (V.ref p8), some (V.int y31.1), some v60, some v81, some v91, t51, none], rfl, _, rfl, _, rfl, _, _, _, _, R.int, rfl, (.inl (O98.s _ _ h103)), (RL.mono (hl104) O98.s), _, rfl, ?_⟩
      refine iteD (fun q105 => ?_) (fun q105 => ?_)
      · have hk := wp_if hk q105
        obtain ⟨p106, w107, e108, h109, hl110⟩ := R.lst_ f_held
        cases e108
        refine ⟨[some (V.ref p63), some (V.ref p13), some (V.ref p106), some (V.ref p100), some (V.ref p2), some (V.ref p8), some (V.int y31.1), some v60, some V.non, some v91, t51, none], rfl, _, rfl, _, rfl, _, _, _, _, R.int, rfl, (.inl (O98.s _ _ h109)), (RL.mono (hl110) O98.s), _, rfl, ?_⟩
        refine iteD (fun q111 => ?_) (fun q111 => ?_)
        · have hk := wp_if hk q111
          refine ⟨[some (V.ref p63), some (V.ref p13), some (V.ref p106), some (V.ref p100), some (V.ref p2), some (V.ref p8), some (V.int y31.1), some v60, some V.non, some V.non, t51, none], rfl, _, rfl, _, rfl, (by show 2 ≤ sizeLine; decide), fun p112 hp113 => ?_⟩
          obtain ⟨F114, O115, S116, h117⟩ := O98.putE hp113 (.tup [V.non, V.non])
          have f_tree := f_tree.mono S116
          have f_order := f_order.mono S116
          have f_held := f_held.mono S116
          have f_barred := f_barred.mono S116
          have h16 := S116 _ _ h16
          have hl17 := hl17.mono S116
          have h24 := h24.mono S116
          have h29 := S116 _ _ h29
          have hl30 := hl30.mono S116
          have S41 := S41.trans S116
          have r55 := r55.mono S116
          have h58 := S116 _ _ h58
          have r62 := r62.mono S116
          have h65 := S116 _ _ h65
          have r68 := r68.mono S116
          have r69 := r69.mono S116
          have h73 := S116 _ _ h73
          have hl74 := hl74.mono S116
          have r84 := r84.mono S116
          have hl89 := hl89.mono S116
          have r94 := r94.mono S116
          have hl99 := hl99.mono S116
          have h103 := S116 _ _ h103
          have hl104 := hl104.mono S116
          have h109 := S116 _ _ h109
          have hl110 := hl110.mono S116
          have h118 : R (a := ((Option Int) × (Option Int))) F114 (.ref p112) ((none : (Option Int)), (none : (Option Int))) := R.t2 h117 R.non R.non
          obtain ⟨p119, v122, v123, e120, h121, r124, r125⟩ := R.t2_ h118
          cases e120
          have hl126 : RL (a := (Option Int)) F114 [v122, v123] [((none : (Option Int)), (none : (Option Int))).1, ((none : (Option Int)), (none : (Option Int))).2] := RL.cons r124 (RL.cons r125 RL.nil)
          obtain ⟨c132, L128, hL129, hLs130, hLd131⟩ := compS_L hk
          refine ⟨_, rfl, ⟨_, (SqTF O115.s h121)⟩, fun p133 hp134 => ?_⟩
          have z154 := O115.was hp134
          refine lc_tup (K := K) (xs := [v122, v123]) (fun i H => ∃ (F_ : Hp) (st : Unit) (acc : List Int) (wa : List V), Same F114 F_ ∧ Ow _ F_ [(p133, .lst wa), (p8, .dK (w92)), (p2, .dK (w82))] H ∧ RL F_ wa acc ∧ wa.length ≤ i ∧ L128 (List.drop i ([((none : (Option Int)), (none : (Option Int))).1, ((none : (Option Int)), (none : (Option Int))).2])) acc st) ⟨F114, (), [], [], Same.refl _, O115.new hp134, RL.nil, Nat.zero_le _, hL129⟩ (fun i_ H_ _ hp_ => ?_) ?_ ?_
          · obtain ⟨_, _, _, _, hS_, hO_, _⟩ := hp_
            exact SqTF hO_.s (hS_ _ _ h121)
          · rintro i135 x136 H137 hi138 ⟨F143, st144, acc140, wa141, S145, O147, hl146, la142, hL129⟩
            have f_tree := f_tree.mono S145
            have f_order := f_order.mono S145
            have f_held := f_held.mono S145
            have f_barred := f_barred.mono S145
            have h16 := S145 _ _ h16
            have hl17 := hl17.mono S145
            have h24 := h24.mono S145
            have h29 := S145 _ _ h29
            have hl30 := hl30.mono S145
            have S41 := S41.trans S145
            have r55 := r55.mono S145
            have h58 := S145 _ _ h58
            have r62 := r62.mono S145
            have h65 := S145 _ _ h65
            have r68 := r68.mono S145
            have r69 := r69.mono S145
            have h73 := S145 _ _ h73
            have hl74 := hl74.mono S145
            have r84 := r84.mono S145
            have hl89 := hl89.mono S145
            have r94 := r94.mono S145
            have hl99 := hl99.mono S145
            have h103 := S145 _ _ h103
            have hl104 := hl104.mono S145
            have h109 := S145 _ _ h109
            have hl110 := hl110.mono S145
            have h118 := h118.mono S145
            have h121 := S145 _ _ h121
            have r124 := r124.mono S145
            have r125 := r125.mono S145
            have hl126 := hl126.mono S145
            obtain ⟨y127, e148, r149⟩ := RL.got hl126 hi138
            rw [drop_at e148] at hL129
            have hk := hLs130 _ _ _ _ hL129
            refine ⟨rfl, _, rfl, rfl, _, rfl, ?_⟩
            rw [isN_opt (F := F143) (r149)]
            refine iteBN (fun q150 => ?_) (fun q150 => ?_)
            · have hk := wp_if hk q150
              exact ⟨F143, (), acc140, wa141, S145, O147, hl146, Nat.le_succ_of_le la142, hk⟩
            · have hk := wp_el hk q150
              obtain ⟨y151, e152, hk⟩ := wp_opt hk
              have r153 : R (a := Int) F143 x136 y151 := R.jst_ (by rw [← e152]; exact r149)
              obtain rfl := R.int_ r153
              refine ⟨_, rfl, _, (O147.at 0 rfl), (comp_len la142 hi138 hl126.len c132), ?_⟩
              exact ⟨F143, (), acc140 ++ [y151], wa141 ++ [V.int y151], S145, O147.set 0 (.lst (wa141 ++ [V.int y151])) rfl, RL.snoc hl146 R.int, by rw [List.length_append]; exact Nat.succ_le_succ la142, hk⟩
          rintro H155 ⟨F156, st157, acc158, wa159, S160, O161, hl162, la163, hL164⟩
          rw [drop_end hl126.len] at hL164
          have hk := hLd131 _ _ hL164
          have f_tree := f_tree.mono S160
          have f_order := f_order.mono S160
          have f_held := f_held.mono S160
          have f_barred := f_barred.mono S160
          have h16 := S160 _ _ h16
          have hl17 := hl17.mono S160
          have h24 := h24.mono S160
          have h29 := S160 _ _ h29
          have hl30 := hl30.mono S160
          have S41 := S41.trans S160
          have r55 := r55.mono S160
          have h58 := S160 _ _ h58
          have r62 := r62.mono S160
          have h65 := S160 _ _ h65
          have r68 := r68.mono S160
          have r69 := r69.mono S160
          have h73 := S160 _ _ h73
          have hl74 := hl74.mono S160
          have r84 := r84.mono S160
          have hl89 := hl89.mono S160
          have r94 := r94.mono S160
          have hl99 := hl99.mono S160
          have h103 := S160 _ _ h103
          have hl104 := hl104.mono S160
          have h109 := S160 _ _ h109
          have hl110 := hl110.mono S160
          have h118 := h118.mono S160
          have h121 := S160 _ _ h121
          have r124 := r124.mono S160
          have r125 := r125.mono S160
          have hl126 := hl126.mono S160
          obtain ⟨F166, O167, S168, h169⟩ := O161.frzE 0 rfl z154
          have f_tree := f_tree.mono S168
          have f_order := f_order.mono S168
          have f_held := f_held.mono S168
          have f_barred := f_barred.mono S168
          have h16 := S168 _ _ h16
          have hl17 := hl17.mono S168
          have h24 := h24.mono S168
          have h29 := S168 _ _ h29
          have hl30 := hl30.mono S168
          have S41 := S41.trans S168
          have r55 := r55.mono S168
          have h58 := S168 _ _ h58
          have r62 := r62.mono S168
          have h65 := S168 _ _ h65
          have r68 := r68.mono S168
          have r69 := r69.mono S168
          have h73 := S168 _ _ h73
          have hl74 := hl74.mono S168
          have r84 := r84.mono S168
          have hl89 := hl89.mono S168
          have r94 := r94.mono S168
          have hl99 := hl99.mono S168
          have h103 := S168 _ _ h103
          have hl104 := hl104.mono S168
          have h109 := S168 _ _ h109
          have hl110 := hl110.mono S168
          have h118 := h118.mono S168
          have h121 := S168 _ _ h121
          have r124 := r124.mono S168
          have r125 := r125.mono S168
          have hl126 := hl126.mono S168
          have hl162 := hl162.mono S168
          have h170 := R.lst (a := Int) h169 hl162
          refine ⟨[some (V.ref p63), some (V.ref p13), some (V.ref p106), some (V.ref p100), some (V.ref p2), some (V.ref p8), some (V.int y31.1), some v60, some V.non, some V.non, some (V.ref p133), none], rfl, _, rfl, rfl, _, rfl, ?_⟩
          rw [isN_opt (F := F166) (r62)]
          refine iteB (fun q171 => ?_) (fun q171 => ?_)
          · have hk := wp_if hk q171
            refine ⟨_, rfl, (by show 0 ≤ sizeLine; decide), fun p172 hp173 => ?_⟩
            have hl179 : RL (a := Int) F166 ([]) ([] : List Int) := RL.nil
            obtain ⟨F174, O175, S176, h177⟩ := O167.putE hp173 (.lst ([]))
            have f_tree := f_tree.mono S176
            have f_order := f_order.mono S176
            have f_held := f_held.mono S176
            have f_barred := f_barred.mono S176
            have h16 := S176 _ _ h16
            have hl17 := hl17.mono S176
            have h24 := h24.mono S176
            have h29 := S176 _ _ h29
            have hl30 := hl30.mono S176
            have S41 := S41.trans S176
            have r55 := r55.mono S176
            have h58 := S176 _ _ h58
            have r62 := r62.mono S176
            have h65 := S176 _ _ h65
            have r68 := r68.mono S176
            have r69 := r69.mono S176
            have h73 := S176 _ _ h73
            have hl74 := hl74.mono S176
            have r84 := r84.mono S176
            have hl89 := hl89.mono S176
            have r94 := r94.mono S176
            have hl99 := hl99.mono S176
            have h103 := S176 _ _ h103
            have hl104 := hl104.mono S176
            have h109 := S176 _ _ h109
            have hl110 := hl110.mono S176
            have h118 := h118.mono S176
            have h121 := S176 _ _ h121
            have r124 := r124.mono S176
            have r125 := r125.mono S176
            have hl126 := hl126.mono S176
            have h170 := h170.mono S176
            have hl179 := hl179.mono S176
            have h178 := R.lst (a := Int) h177 hl179
            refine ⟨_, _, (R.mono h170 O175.s), (R.mono h178 O175.s), _, rfl, ?_⟩
            refine iteD (fun q180 => ?_) (fun q180 => ?_)
            · have hk := wp_if hk q180
              obtain ⟨p181, w182, e183, h184, hl185⟩ := R.lst_ h170
              cases e183
              obtain ⟨y186, e187, hk⟩ := wp_opt hk
              refine ⟨_, rfl, _, acc158, rfl, (by rw [← RL.ints hl185]; exact (SqLF O175.s h184)), (List.length_pos_of_mem (mxI_is e187).1), fun m188 h189 h190 => ?_⟩
              have e191 := mxI_uq e187 h189 h190
              subst e191
              exact hk _ _  O175.g  _ (R.jst R.int)
            · have hk := wp_el hk q180
              exact hk _ _  O175.g  _ R.non
          · have hk := wp_el hk q171
            obtain ⟨y192, e193, hk⟩ := wp_opt hk
            have r194 : R (a := Int) F166 v60 y192 := R.jst_ (by rw [← e193]; exact r62)
            obtain rfl := R.int_ r194
            obtain ⟨p195, w196, e197, h198, hl199⟩ := R.lst_ r68
            cases e197
            obtain ⟨y200, e201, hk⟩ := wp_opt hk
            obtain ⟨w202, e203, r204⟩ := hl199.atI e201
            obtain rfl := R.int_ r204
            refine ⟨_, rfl, _, rfl, _, rfl, _, _, _, _, rfl, rfl, (SqTF O167.s h65), rfl, _, rfl, _, _, _, _, rfl, rfl, (SqLF O167.s h198), e203, _, rfl, _, _, _, _, _, _, _, _, rfl, (O167.pre1 1 rfl), hl89, R.non, wp_call hk (fun r205 er206 hk F207 H208 w210 g209 h211 hl212 => ?_) (fun n hn C H1 hC kp => hn C H1 hC (O167.kp1 kp 1 rfl))⟩
            have O213 := O167.call1 g209 1 rfl h211
            have S_ := g209.f
            have f_tree := f_tree.mono S_
            have f_order := f_order.mono S_
            have f_held := f_held.mono S_
            have f_barred := f_barred.mono S_
            have h16 := S_ _ _ h16
            have hl17 := hl17.mono S_
            have h24 := h24.mono S_
            have h29 := S_ _ _ h29
            have hl30 := hl30.mono S_
            have S41 := S41.trans S_
            have r55 := r55.mono S_
            have h58 := S_ _ _ h58
            have r62 := r62.mono S_
            have h65 := S_ _ _ h65
            have r68 := r68.mono S_
            have r69 := r69.mono S_
            have h73 := S_ _ _ h73
            have hl74 := hl74.mono S_
            have r84 := r84.mono S_
            have r94 := r94.mono S_
            have hl99 := hl99.mono S_
            have h103 := S_ _ _ h103
            have hl104 := hl104.mono S_
            have h109 := S_ _ _ h109
            have hl110 := hl110.mono S_
            have h118 := h118.mono S_
            have h121 := S_ _ _ h121
            have r124 := r124.mono S_
            have r125 := r125.mono S_
            have hl126 := hl126.mono S_
            have h170 := h170.mono S_
            have h198 := S_ _ _ h198
            have hl199 := hl199.mono S_
            refine ⟨_, rfl, _, rfl, _, rfl, (by show 0 ≤ sizeLine; decide), fun p214 hp215 => ?_⟩
            have hl221 : RL (a := Int) F207 ([]) ([] : List Int) := RL.nil
            obtain ⟨F216, O217, S218, h219⟩ := O213.putE hp215 (.lst ([]))
            have f_tree := f_tree.mono S218
            have f_order := f_order.mono S218
            have f_held := f_held.mono S218
            have f_barred := f_barred.mono S218
            have h16 := S218 _ _ h16
            have hl17 := hl17.mono S218
            have h24 := h24.mono S218
            have h29 := S218 _ _ h29
            have hl30 := hl30.mono S218
            have S41 := S41.trans S218
            have r55 := r55.mono S218
            have h58 := S218 _ _ h58
            have r62 := r62.mono S218
            have h65 := S218 _ _ h65
            have r68 := r68.mono S218
            have r69 := r69.mono S218
            have h73 := S218 _ _ h73
            have hl74 := hl74.mono S218
            have r84 := r84.mono S218
            have r94 := r94.mono S218
            have hl99 := hl99.mono S218
            have h103 := S218 _ _ h103
            have hl104 := hl104.mono S218
            have h109 := S218 _ _ h109
            have hl110 := hl110.mono S218
            have h118 := h118.mono S218
            have h121 := S218 _ _ h121
            have r124 := r124.mono S218
            have r125 := r125.mono S218
            have hl126 := hl126.mono S218
            have h170 := h170.mono S218
            have h198 := S218 _ _ h198
            have hl199 := hl199.mono S218
            have hl212 := hl212.mono S218
            have hl221 := hl221.mono S218
            have h220 := R.lst (a := Int) h219 hl221
            refine ⟨_, _, (R.mono h170 O217.s), (R.mono h220 O217.s), _, rfl, ?_⟩
            refine iteD (fun q222 => ?_) (fun q222 => ?_)
            · have hk := wp_if hk q222
              obtain ⟨p223, w224, e225, h226, hl227⟩ := R.lst_ h170
              cases e225
              obtain ⟨y228, e229, hk⟩ := wp_opt hk
              refine ⟨_, rfl, _, acc158, rfl, (by rw [← RL.ints hl227]; exact (SqLF O217.s h226)), (List.length_pos_of_mem (mxI_is e229).1), fun m230 h231 h232 => ?_⟩
              have e233 := mxI_uq e229 h231 h232
              subst e233
              refine ⟨_, _, _, _, _, _, _, _, rfl, (O217.pre1 0 rfl), hl99, (R.jst R.int), wp_call hk (fun r234 er235 hk F236 H237 w239 g238 h240 hl241 => ?_) (fun n hn C H1 hC kp => hn C H1 hC (O217.kp1 kp 0 rfl))⟩
              have O242 := O217.call1 g238 0 rfl h240
              have S_ := g238.f
              have f_tree := f_tree.mono S_
              have f_order := f_order.mono S_
              have f_held := f_held.mono S_
              have f_barred := f_barred.mono S_
              have h16 := S_ _ _ h16
              have hl17 := hl17.mono S_
              have h24 := h24.mono S_
              have h29 := S_ _ _ h29
              have hl30 := hl30.mono S_
              have S41 := S41.trans S_
              have r55 := r55.mono S_
              have h58 := S_ _ _ h58
              have r62 := r62.mono S_
              have h65 := S_ _ _ h65
              have r68 := r68.mono S_
              have r69 := r69.mono S_
              have h73 := S_ _ _ h73
              have hl74 := hl74.mono S_
              have r84 := r84.mono S_
              have r94 := r94.mono S_
              have h103 := S_ _ _ h103
              have hl104 := hl104.mono S_
              have h109 := S_ _ _ h109
              have hl110 := hl110.mono S_
              have h118 := h118.mono S_
              have h121 := S_ _ _ h121
              have r124 := r124.mono S_
              have r125 := r125.mono S_
              have hl126 := hl126.mono S_
              have h170 := h170.mono S_
              have h198 := S_ _ _ h198
              have hl199 := hl199.mono S_
              have hl212 := hl212.mono S_
              have h220 := h220.mono S_
              have h226 := S_ _ _ h226
              have hl227 := hl227.mono S_
              exact ⟨F236, (r205, r234), w210, w239, some (V.int y31.1), some (V.int y192), some V.non, some V.non, some (V.ref p133), rfl, S41, O242, hl212, hl241, hk⟩
            · have hk := wp_el hk q222
              refine ⟨_, _, _, _, _, _, _, _, rfl, (O217.pre1 0 rfl), hl99, R.non, wp_call hk (fun r243 er244 hk F245 H246 w248 g247 h249 hl250 => ?_) (fun n hn C H1 hC kp => hn C H1 hC (O217.kp1 kp 0 rfl))⟩
              have O251 := O217.call1 g247 0 rfl h249
              have S_ := g247.f
              have f_tree := f_tree.mono S_
              have f_order := f_order.mono S_
              have f_held := f_held.mono S_
              have f_barred := f_barred.mono S_
              have h16 := S_ _ _ h16
              have hl17 := hl17.mono S_
              have h24 := h24.mono S_
              have h29 := S_ _ _ h29
              have hl30 := hl30.mono S_
              have S41 := S41.trans S_
              have r55 := r55.mono S_
              have h58 := S_ _ _ h58
              have r62 := r62.mono S_
              have h65 := S_ _ _ h65
              have r68 := r68.mono S_
              have r69 := r69.mono S_
              have h73 := S_ _ _ h73
              have hl74 := hl74.mono S_
              have r84 := r84.mono S_
              have r94 := r94.mono S_
              have h103 := S_ _ _ h103
              have hl104 := hl104.mono S_
              have h109 := S_ _ _ h109
              have hl110 := hl110.mono S_
              have h118 := h118.mono S_
              have h121 := S_ _ _ h121
              have r124 := r124.mono S_
              have r125 := r125.mono S_
              have hl126 := hl126.mono S_
              have h170 := h170.mono S_
              have h198 := S_ _ _ h198
              have hl199 := hl199.mono S_
              have hl212 := hl212.mono S_
              have h220 := h220.mono S_
              exact ⟨F245, (r205, r243), w210, w248, some (V.int y31.1), some (V.int y192), some V.non, some V.non, some (V.ref p133), rfl, S41, O251, hl212, hl250, hk⟩
        · have hk := wp_el hk q111
          refine ⟨_, rfl, _, rfl, (by show 2 ≤ sizeLine; decide), fun p252 hp253 => ?_⟩
          obtain ⟨F254, O255, S256, h257⟩ := O98.putE hp253 (.tup [V.non, v91])
          have f_tree := f_tree.mono S256
          have f_order := f_order.mono S256
          have f_held := f_held.mono S256
          have f_barred := f_barred.mono S256
          have h16 := S256 _ _ h16
          have hl17 := hl17.mono S256
          have h24 := h24.mono S256
          have h29 := S256 _ _ h29
          have hl30 := hl30.mono S256
          have S41 := S41.trans S256
          have r55 := r55.mono S256
          have h58 := S256 _ _ h58
          have r62 := r62.mono S256
          have h65 := S256 _ _ h65
          have r68 := r68.mono S256
          have r69 := r69.mono S256
          have h73 := S256 _ _ h73
          have hl74 := hl74.mono S256
          have r84 := r84.mono S256
          have hl89 := hl89.mono S256
          have r94 := r94.mono S256
          have hl99 := hl99.mono S256
          have h103 := S256 _ _ h103
          have hl104 := hl104.mono S256
          have h109 := S256 _ _ h109
          have hl110 := hl110.mono S256
          have h258 : R (a := ((Option Int) × (Option Int))) F254 (.ref p252) ((none : (Option Int)), ((dGet st42.2 y31.1).getD (some (0 : Int)))) := R.t2 h257 R.non r94
          obtain ⟨p259, v262, v263, e260, h261, r264, r265⟩ := R.t2_ h258
          cases e260
          have hl266 : RL (a := (Option Int)) F254 [v262, v263] [((none : (Option Int)), ((dGet st42.2 y31.1).getD (some (0 : Int)))).1, ((none : (Option Int)), ((dGet st42.2 y31.1).getD (some (0 : Int)))).2] := RL.cons r264 (RL.cons r265 RL.nil)
          obtain ⟨c272, L268, hL269, hLs270, hLd271⟩ := compS_L hk
          refine ⟨_, rfl, ⟨_, (SqTF O255.s h261)⟩, fun p273 hp274 => ?_⟩
          have z294 := O255.was hp274
          refine lc_tup (K := K) (xs := [v262, v263]) (fun i H => ∃ (F_ : Hp) (st : Unit) (acc : List Int) (wa : List V), Same F254 F_ ∧ Ow _ F_ [(p273, .lst wa), (p8, .dK (w92)), (p2, .dK (w82))] H ∧ RL F_ wa acc ∧ wa.length ≤ i ∧ L268 (List.drop i ([((none : (Option Int)), ((dGet st42.2 y31.1).getD (some (0 : Int)))).1, ((none : (Option Int)), ((dGet st42.2 y31.1).getD (some (0 : Int)))).2])) acc st) ⟨F254, (), [], [], Same.refl _, O255.new hp274, RL.nil, Nat.zero_le _, hL269⟩ (fun i_ H_ _ hp_ => ?_) ?_ ?_
          · obtain ⟨_, _, _, _, hS_, hO_, _⟩ := hp_
            exact SqTF hO_.s (hS_ _ _ h261)
          · rintro i275 x276 H277 hi278 ⟨F283, st284, acc280, wa281, S285, O287, hl286, la282, hL269⟩
            have f_tree := f_tree.mono S285
            have f_order := f_order.mono S285
            have f_held := f_held.mono S285
            have f_barred := f_barred.mono S285
            have h16 := S285 _ _ h16
            have hl17 := hl17.mono S285
            have h24 := h24.mono S285
            have h29 := S285 _ _ h29
            have hl30 := hl30.mono S285
            have S41 := S41.trans S285
            have r55 := r55.mono S285
            have h58 := S285 _ _ h58
            have r62 := r62.mono S285
            have h65 := S285 _ _ h65
            have r68 := r68.mono S285
            have r69 := r69.mono S285
            have h73 := S285 _ _ h73
            have hl74 := hl74.mono S285
            have r84 := r84.mono S285
            have hl89 := hl89.mono S285
            have r94 := r94.mono S285
            have hl99 := hl99.mono S285
            have h103 := S285 _ _ h103
            have hl104 := hl104.mono S285
            have h109 := S285 _ _ h109
            have hl110 := hl110.mono S285
            have h258 := h258.mono S285
            have h261 := S285 _ _ h261
            have r264 := r264.mono S285
            have r265 := r265.mono S285
            have hl266 := hl266.mono S285
            obtain ⟨y267, e288, r289⟩ := RL.got hl266 hi278
            rw [drop_at e288] at hL269
            have hk := hLs270 _ _ _ _ hL269
            refine ⟨rfl, _, rfl, rfl, _, rfl, ?_⟩
            rw [isN_opt (F := F283) (r289)]
            refine iteBN (fun q290 => ?_) (fun q290 => ?_)
            · have hk := wp_if hk q290
              exact ⟨F283, (), acc280, wa281, S285, O287, hl286, Nat.le_succ_of_le la282, hk⟩
            · have hk := wp_el hk q290
              obtain ⟨y291, e292, hk⟩ := wp_opt hk
              have r293 : R (a := Int) F283 x276 y291 := R.jst_ (by rw [← e292]; exact r289)
              obtain rfl := R.int_ r293
              refine ⟨_, rfl, _, (O287.at 0 rfl), (comp_len la282 hi278 hl266.len c272), ?_⟩
              exact ⟨F283, (), acc280 ++ [y291], wa281 ++ [V.int y291], S285, O287.set 0 (.lst (wa281 ++ [V.int y291])) rfl, RL.snoc hl286 R.int, by rw [List.length_append]; exact Nat.succ_le_succ la282, hk⟩
          rintro H295 ⟨F296, st297, acc298, wa299, S300, O301, hl302, la303, hL304⟩
          rw [drop_end hl266.len] at hL304
          have hk := hLd271 _ _ hL304
          have f_tree := f_tree.mono S300
          have f_order := f_order.mono S300
          have f_held := f_held.mono S300
          have f_barred := f_barred.mono S300
          have h16 := S300 _ _ h16
          have hl17 := hl17.mono S300
          have h24 := h24.mono S300
          have h29 := S300 _ _ h29
          have hl30 := hl30.mono S300
          have S41 := S41.trans S300
          have r55 := r55.mono S300
          have h58 := S300 _ _ h58
          have r62 := r62.mono S300
          have h65 := S300 _ _ h65
          have r68 := r68.mono S300
          have r69 := r69.mono S300
          have h73 := S300 _ _ h73
          have hl74 := hl74.mono S300
          have r84 := r84.mono S300
          have hl89 := hl89.mono S300
          have r94 := r94.mono S300
          have hl99 := hl99.mono S300
          have h103 := S300 _ _ h103
          have hl104 := hl104.mono S300
          have h109 := S300 _ _ h109
          have hl110 := hl110.mono S300
          have h258 := h258.mono S300
          have h261 := S300 _ _ h261
          have r264 := r264.mono S300
          have r265 := r265.mono S300
          have hl266 := hl266.mono S300
          obtain ⟨F306, O307, S308, h309⟩ := O301.frzE 0 rfl z294
          have f_tree := f_tree.mono S308
          have f_order := f_order.mono S308
          have f_held := f_held.mono S308
          have f_barred := f_barred.mono S308
          have h16 := S308 _ _ h16
          have hl17 := hl17.mono S308
          have h24 := h24.mono S308
          have h29 := S308 _ _ h29
          have hl30 := hl30.mono S308
          have S41 := S41.trans S308
          have r55 := r55.mono S308
          have h58 := S308 _ _ h58
          have r62 := r62.mono S308
          have h65 := S308 _ _ h65
          have r68 := r68.mono S308
          have r69 := r69.mono S308
          have h73 := S308 _ _ h73
          have hl74 := hl74.mono S308
          have r84 := r84.mono S308
          have hl89 := hl89.mono S308
          have r94 := r94.mono S308
          have hl99 := hl99.mono S308
          have h103 := S308 _ _ h103
          have hl104 := hl104.mono S308
          have h109 := S308 _ _ h109
          have hl110 := hl110.mono S308
          have h258 := h258.mono S308
          have h261 := S308 _ _ h261
          have r264 := r264.mono S308
          have r265 := r265.mono S308
          have hl266 := hl266.mono S308
          have hl302 := hl302.mono S308
          have h310 := R.lst (a := Int) h309 hl302
          refine ⟨[some (V.ref p63), some (V.ref p13), some (V.ref p106), some (V.ref p100), some (V.ref p2), some (V.ref p8), some (V.int y31.1), some v60, some V.non, some v91, some (V.ref p273), none], rfl, _, rfl, rfl, _, rfl, ?_⟩
          rw [isN_opt (F := F306) (r62)]
          refine iteB (fun q311 => ?_) (fun q311 => ?_)
          · have hk := wp_if hk q311
            refine ⟨_, rfl, (by show 0 ≤ sizeLine; decide), fun p312 hp313 => ?_⟩
            have hl319 : RL (a := Int) F306 ([]) ([] : List Int) := RL.nil
            obtain ⟨F314, O315, S316, h317⟩ := O307.putE hp313 (.lst ([]))
            have f_tree := f_tree.mono S316
            have f_order := f_order.mono S316
            have f_held := f_held.mono S316
            have f_barred := f_barred.mono S316
            have h16 := S316 _ _ h16
            have hl17 := hl17.mono S316
            have h24 := h24.mono S316
            have h29 := S316 _ _ h29
            have hl30 := hl30.mono S316
            have S41 := S41.trans S316
            have r55 := r55.mono S316
            have h58 := S316 _ _ h58
            have r62 := r62.mono S316
            have h65 := S316 _ _ h65
            have r68 := r68.mono S316
            have r69 := r69.mono S316
            have h73 := S316 _ _ h73
            have hl74 := hl74.mono S316
            have r84 := r84.mono S316
            have hl89 := hl89.mono S316
            have r94 := r94.mono S316
            have hl99 := hl99.mono S316
            have h103 := S316 _ _ h103
            have hl104 := hl104.mono S316
            have h109 := S316 _ _ h109
            have hl110 := hl110.mono S316
            have h258 := h258.mono S316
            have h261 := S316 _ _ h261
            have r264 := r264.mono S316
            have r265 := r265.mono S316
            have hl266 := hl266.mono S316
            have h310 := h310.mono S316
            have hl319 := hl319.mono S316
            have h318 := R.lst (a := Int) h317 hl319
            refine ⟨_, _, (R.mono h310 O315.s), (R.mono h318 O315.s), _, rfl, ?_⟩
            refine iteD (fun q320 => ?_) (fun q320 => ?_)
            · have hk := wp_if hk q320
              obtain ⟨p321, w322, e323, h324, hl325⟩ := R.lst_ h310
              cases e323
              obtain ⟨y326, e327, hk⟩ := wp_opt hk
              refine ⟨_, rfl, _, acc298, rfl, (by rw [← RL.ints hl325]; exact (SqLF O315.s h324)), (List.length_pos_of_mem (mxI_is e327).1), fun m328 h329 h330 => ?_⟩
              have e331 := mxI_uq e327 h329 h330
              subst e331
              exact hk _ _  O315.g  _ (R.jst R.int)
            · have hk := wp_el hk q320
              exact hk _ _  O315.g  _ R.non
          · have hk := wp_el hk q311
            obtain ⟨y332, e333, hk⟩ := wp_opt hk
            have r334 : R (a := Int) F306 v60 y332 := R.jst_ (by rw [← e333]; exact r62)
            obtain rfl := R.int_ r334
            obtain ⟨p335, w336, e337, h338, hl339⟩ := R.lst_ r68
            cases e337
            obtain ⟨y340, e341, hk⟩ := wp_opt hk
            obtain ⟨w342, e343, r344⟩ := hl339.atI e341
            obtain rfl := R.int_ r344
            refine ⟨_, rfl, _, rfl, _, rfl, _, _, _, _, rfl, rfl, (SqTF O307.s h65), rfl, _, rfl, _, _, _, _, rfl, rfl, (SqLF O307.s h338), e343, _, rfl, _, _, _, _, _, _, _, _, rfl, (O307.pre1 1 rfl), hl89, r94, wp_call hk (fun r345 er346 hk F347 H348 w350 g349 h351 hl352 => ?_) (fun n hn C H1 hC kp => hn C H1 hC (O307.kp1 kp 1 rfl))⟩
            have O353 := O307.call1 g349 1 rfl h351
            have S_ := g349.f
            have f_tree := f_tree.mono S_
            have f_order := f_order.mono S_
            have f_held := f_held.mono S_
            have f_barred := f_barred.mono S_
            have h16 := S_ _ _ h16
            have hl17 := hl17.mono S_
            have h24 := h24.mono S_
            have h29 := S_ _ _ h29
            have hl30 := hl30.mono S_
            have S41 := S41.trans S_
            have r55 := r55.mono S_
            have h58 := S_ _ _ h58
            have r62 := r62.mono S_
            have h65 := S_ _ _ h65
            have r68 := r68.mono S_
            have r69 := r69.mono S_
            have h73 := S_ _ _ h73
            have hl74 := hl74.mono S_
            have r84 := r84.mono S_
            have r94 := r94.mono S_
            have hl99 := hl99.mono S_
            have h103 := S_ _ _ h103
            have hl104 := hl104.mono S_
            have h109 := S_ _ _ h109
            have hl110 := hl110.mono S_
            have h258 := h258.mono S_
            have h261 := S_ _ _ h261
            have r264 := r264.mono S_
            have r265 := r265.mono S_
            have hl266 := hl266.mono S_
            have h310 := h310.mono S_
            have h338 := S_ _ _ h338
            have hl339 := hl339.mono S_
            refine ⟨_, rfl, _, rfl, _, rfl, (by show 0 ≤ sizeLine; decide), fun p354 hp355 => ?_⟩
            have hl361 : RL (a := Int) F347 ([]) ([] : List Int) := RL.nil
            obtain ⟨F356, O357, S358, h359⟩ := O353.putE hp355 (.lst ([]))
            have f_tree := f_tree.mono S358
            have f_order := f_order.mono S358
            have f_held := f_held.mono S358
            have f_barred := f_barred.mono S358
            have h16 := S358 _ _ h16
            have hl17 := hl17.mono S358
            have h24 := h24.mono S358
            have h29 := S358 _ _ h29
            have hl30 := hl30.mono S358
            have S41 := S41.trans S358
            have r55 := r55.mono S358
            have h58 := S358 _ _ h58
            have r62 := r62.mono S358
            have h65 := S358 _ _ h65
            have r68 := r68.mono S358
            have r69 := r69.mono S358
            have h73 := S358 _ _ h73
            have hl74 := hl74.mono S358
            have r84 := r84.mono S358
            have r94 := r94.mono S358
            have hl99 := hl99.mono S358
            have h103 := S358 _ _ h103
            have hl104 := hl104.mono S358
            have h109 := S358 _ _ h109
            have hl110 := hl110.mono S358
            have h258 := h258.mono S358
            have h261 := S358 _ _ h261
            have r264 := r264.mono S358
            have r265 := r265.mono S358
            have hl266 := hl266.mono S358
            have h310 := h310.mono S358
            have h338 := S358 _ _ h338
            have hl339 := hl339.mono S358
            have hl352 := hl352.mono S358
            have hl361 := hl361.mono S358
            have h360 := R.lst (a := Int) h359 hl361
            refine ⟨_, _, (R.mono h310 O357.s), (R.mono h360 O357.s), _, rfl, ?_⟩
            refine iteD (fun q362 => ?_) (fun q362 => ?_)
            · have hk := wp_if hk q362
              obtain ⟨p363, w364, e365, h366, hl367⟩ := R.lst_ h310
              cases e365
              obtain ⟨y368, e369, hk⟩ := wp_opt hk
              refine ⟨_, rfl, _, acc298, rfl, (by rw [← RL.ints hl367]; exact (SqLF O357.s h366)), (List.length_pos_of_mem (mxI_is e369).1), fun m370 h371 h372 => ?_⟩
              have e373 := mxI_uq e369 h371 h372
              subst e373
              refine ⟨_, _, _, _, _, _, _, _, rfl, (O357.pre1 0 rfl), hl99, (R.jst R.int), wp_call hk (fun r374 er375 hk F376 H377 w379 g378 h380 hl381 => ?_) (fun n hn C H1 hC kp => hn C H1 hC (O357.kp1 kp 0 rfl))⟩
              have O382 := O357.call1 g378 0 rfl h380
              have S_ := g378.f
              have f_tree := f_tree.mono S_
              have f_order := f_order.mono S_
              have f_held := f_held.mono S_
              have f_barred := f_barred.mono S_
              have h16 := S_ _ _ h16
              have hl17 := hl17.mono S_
              have h24 := h24.mono S_
              have h29 := S_ _ _ h29
              have hl30 := hl30.mono S_
              have S41 := S41.trans S_
              have r55 := r55.mono S_
              have h58 := S_ _ _ h58
              have r62 := r62.mono S_
              have h65 := S_ _ _ h65
              have r68 := r68.mono S_
              have r69 := r69.mono S_
              have h73 := S_ _ _ h73
              have hl74 := hl74.mono S_
              have r84 := r84.mono S_
              have r94 := r94.mono S_
              have h103 := S_ _ _ h103
              have hl104 := hl104.mono S_
              have h109 := S_ _ _ h109
              have hl110 := hl110.mono S_
              have h258 := h258.mono S_
              have h261 := S_ _ _ h261
              have r264 := r264.mono S_
              have r265 := r265.mono S_
              have hl266 := hl266.mono S_
              have h310 := h310.mono S_
              have h338 := S_ _ _ h338
              have hl339 := hl339.mono S_
              have hl352 := hl352.mono S_
              have h360 := h360.mono S_
              have h366 := S_ _ _ h366
              have hl367 := hl367.mono S_
              exact ⟨F376, (r345, r374), w350, w379, some (V.int y31.1), some (V.int y332), some V.non, some v91, some (V.ref p273), rfl, S41, O382, hl352, hl381, hk⟩
            · have hk := wp_el hk q362
              refine ⟨_, _, _, _, _, _, _, _, rfl, (O357.pre1 0 rfl), hl99, R.non, wp_call hk (fun r383 er384 hk F385 H386 w388 g387 h389 hl390 => ?_) (fun n hn C H1 hC kp => hn C H1 hC (O357.kp1 kp 0 rfl))⟩
              have O391 := O357.call1 g387 0 rfl h389
              have S_ := g387.f
              have f_tree := f_tree.mono S_
              have f_order := f_order.mono S_
              have f_held := f_held.mono S_
              have f_barred := f_barred.mono S_
              have h16 := S_ _ _ h16
              have hl17 := hl17.mono S_
              have h24 := h24.mono S_
              have h29 := S_ _ _ h29
              have hl30 := hl30.mono S_
              have S41 := S41.trans S_
              have r55 := r55.mono S_
              have h58 := S_ _ _ h58
              have r62 := r62.mono S_
              have h65 := S_ _ _ h65
              have r68 := r68.mono S_
              have r69 := r69.mono S_
              have h73 := S_ _ _ h73
              have hl74 := hl74.mono S_
              have r84 := r84.mono S_
              have r94 := r94.mono S_
              have h103 := S_ _ _ h103
              have hl104 := hl104.mono S_
              have h109 := S_ _ _ h109
              have hl110 := hl110.mono S_
              have h258 := h258.mono S_
              have h261 := S_ _ _ h261
              have r264 := r264.mono S_
              have r265 := r265.mono S_
              have hl266 := hl266.mono S_
              have h310 := h310.mono S_
              have h338 := S_ _ _ h338
              have hl339 := hl339.mono S_
              have hl352 := hl352.mono S_
              have h360 := h360.mono S_
              exact ⟨F385, (r345, r383), w350, w388, some (V.int y31.1), some (V.int y332), some V.non, some v91, some (V.ref p273), rfl, S41, O391, hl352, hl390, hk⟩
      · have hk := wp_el hk q105
        obtain ⟨p392, w393, e394, h395, hl396⟩ := R.lst_ f_held
        cases e394
        refine ⟨_, rfl, _, rfl, _, _, _, _, R.int, rfl, (.inl (O98.s _ _ h395)), (RL.mono (hl396) O98.s), _, rfl, ?_⟩
        refine iteD (fun q397 => ?_) (fun q397 => ?_)
        · have hk := wp_if hk q397
          refine ⟨[some (V.ref p63), some (V.ref p13), some (V.ref p392), some (V.ref p100), some (V.ref p2), some (V.ref p8), some (V.int y31.1), some v60, some v81, some V.non, t51, none], rfl, _, rfl, _, rfl, (by show 2 ≤ sizeLine; decide), fun p398 hp399 => ?_⟩
          obtain ⟨F400, O401, S402, h403⟩ := O98.putE hp399 (.tup [v81, V.non])
          have f_tree := f_tree.mono S402
          have f_order := f_order.mono S402
          have f_held := f_held.mono S402
          have f_barred := f_barred.mono S402
          have h16 := S402 _ _ h16
          have hl17 := hl17.mono S402
          have h24 := h24.mono S402
          have h29 := S402 _ _ h29
          have hl30 := hl30.mono S402
          have S41 := S41.trans S402
          have r55 := r55.mono S402
          have h58 := S402 _ _ h58
          have r62 := r62.mono S402
          have h65 := S402 _ _ h65
          have r68 := r68.mono S402
          have r69 := r69.mono S402
          have h73 := S402 _ _ h73
          have hl74 := hl74.mono S402
          have r84 := r84.mono S402
          have hl89 := hl89.mono S402
          have r94 := r94.mono S402
          have hl99 := hl99.mono S402
          have h103 := S402 _ _ h103
          have hl104 := hl104.mono S402
          have h395 := S402 _ _ h395
          have hl396 := hl396.mono S402
          have h404 : R (a := ((Option Int) × (Option Int))) F400 (.ref p398) (((dGet st42.1 y31.1).getD (some y75)), (none : (Option Int))) := R.t2 h403 r84 R.non
          obtain ⟨p405, v408, v409, e406, h407, r410, r411⟩ := R.t2_ h404
          cases e406
          have hl412 : RL (a := (Option Int)) F400 [v408, v409] [(((dGet st42.1 y31.1).getD (some y75)), (none : (Option Int))).1, (((dGet st42.1 y31.1).getD (some y75)), (none : (Option Int))).2] := RL.cons r410 (RL.cons r411 RL.nil)
          obtain ⟨c418, L414, hL415, hLs416, hLd417⟩ := compS_L hk
          refine ⟨_, rfl, ⟨_, (SqTF O401.s h407)⟩, fun p419 hp420 => ?_⟩
          have z440 := O401.was hp420
          refine lc_tup (K := K) (xs := [v408, v409]) (fun i H => ∃ (F_ : Hp) (st : Unit) (acc : List Int) (wa : List V), Same F400 F_ ∧ Ow _ F_ [(p419, .lst wa), (p8, .dK (w92)), (p2, .dK (w82))] H ∧ RL F_ wa acc ∧ wa.length ≤ i ∧ L414 (List.drop i ([(((dGet st42.1 y31.1).getD (some y75)), (none : (Option Int))).1, (((dGet st42.1 y31.1).getD (some y75)), (none : (Option Int))).2])) acc st) ⟨F400, (), [], [], Same.refl _, O401.new hp420, RL.nil, Nat.zero_le _, hL415⟩ (fun i_ H_ _ hp_ => ?_) ?_ ?_
          · obtain ⟨_, _, _, _, hS_, hO_, _⟩ := hp_
            exact SqTF hO_.s (hS_ _ _ h407)
          · rintro i421 x422 H423 hi424 ⟨F429, st430, acc426, wa427, S431, O433, hl432, la428, hL415⟩
            have f_tree := f_tree.mono S431
            have f_order := f_order.mono S431
            have f_held := f_held.mono S431
            have f_barred := f_barred.mono S431
            have h16 := S431 _ _ h16
            have hl17 := hl17.mono S431
            have h24 := h24.mono S431
            have h29 := S431 _ _ h29
            have hl30 := hl30.mono S431
            have S41 := S41.trans S431
            have r55 := r55.mono S431
            have h58 := S431 _ _ h58
            have r62 := r62.mono S431
            have h65 := S431 _ _ h65
            have r68 := r68.mono S431
            have r69 := r69.mono S431
            have h73 := S431 _ _ h73
            have hl74 := hl74.mono S431
            have r84 := r84.mono S431
            have hl89 := hl89.mono S431
            have r94 := r94.mono S431
            have hl99 := hl99.mono S431
            have h103 := S431 _ _ h103
            have hl104 := hl104.mono S431
            have h395 := S431 _ _ h395
            have hl396 := hl396.mono S431
            have h404 := h404.mono S431
            have h407 := S431 _ _ h407
            have r410 := r410.mono S431
            have r411 := r411.mono S431
            have hl412 := hl412.mono S431
            obtain ⟨y413, e434, r435⟩ := RL.got hl412 hi424
            rw [drop_at e434] at hL415
            have hk := hLs416 _ _ _ _ hL415
            refine ⟨rfl, _, rfl, rfl, _, rfl, ?_⟩
            rw [isN_opt (F := F429) (r435)]
            refine iteBN (fun q436 => ?_) (fun q436 => ?_)
            · have hk := wp_if hk q436
              exact ⟨F429, (), acc426, wa427, S431, O433, hl432, Nat.le_succ_of_le la428, hk⟩
            · have hk := wp_el hk q436
              obtain ⟨y437, e438, hk⟩ := wp_opt hk
              have r439 : R (a := Int) F429 x422 y437 := R.jst_ (by rw [← e438]; exact r435)
              obtain rfl := R.int_ r439
              refine ⟨_, rfl, _, (O433.at 0 rfl), (comp_len la428 hi424 hl412.len c418), ?_⟩
              exact ⟨F429, (), acc426 ++ [y437], wa427 ++ [V.int y437], S431, O433.set 0 (.lst (wa427 ++ [V.int y437])) rfl, RL.snoc hl432 R.int, by rw [List.length_append]; exact Nat.succ_le_succ la428, hk⟩
          rintro H441 ⟨F442, st443, acc444, wa445, S446, O447, hl448, la449, hL450⟩
          rw [drop_end hl412.len] at hL450
          have hk := hLd417 _ _ hL450
          have f_tree := f_tree.mono S446
          have f_order := f_order.mono S446
          have f_held := f_held.mono S446
          have f_barred := f_barred.mono S446
          have h16 := S446 _ _ h16
          have hl17 := hl17.mono S446
          have h24 := h24.mono S446
          have h29 := S446 _ _ h29
          have hl30 := hl30.mono S446
          have S41 := S41.trans S446
          have r55 := r55.mono S446
          have h58 := S446 _ _ h58
          have r62 := r62.mono S446
          have h65 := S446 _ _ h65
          have r68 := r68.mono S446
          have r69 := r69.mono S446
          have h73 := S446 _ _ h73
          have hl74 := hl74.mono S446
          have r84 := r84.mono S446
          have hl89 := hl89.mono S446
          have r94 := r94.mono S446
          have hl99 := hl99.mono S446
          have h103 := S446 _ _ h103
          have hl104 := hl104.mono S446
          have h395 := S446 _ _ h395
          have hl396 := hl396.mono S446
          have h404 := h404.mono S446
          have h407 := S446 _ _ h407
          have r410 := r410.mono S446
          have r411 := r411.mono S446
          have hl412 := hl412.mono S446
          obtain ⟨F452, O453, S454, h455⟩ := O447.frzE 0 rfl z440
          have f_tree := f_tree.mono S454
          have f_order := f_order.mono S454
          have f_held := f_held.mono S454
          have f_barred := f_barred.mono S454
          have h16 := S454 _ _ h16
          have hl17 := hl17.mono S454
          have h24 := h24.mono S454
          have h29 := S454 _ _ h29
          have hl30 := hl30.mono S454
          have S41 := S41.trans S454
          have r55 := r55.mono S454
          have h58 := S454 _ _ h58
          have r62 := r62.mono S454
          have h65 := S454 _ _ h65
          have r68 := r68.mono S454
          have r69 := r69.mono S454
          have h73 := S454 _ _ h73
          have hl74 := hl74.mono S454
          have r84 := r84.mono S454
          have hl89 := hl89.mono S454
          have r94 := r94.mono S454
          have hl99 := hl99.mono S454
          have h103 := S454 _ _ h103
          have hl104 := hl104.mono S454
          have h395 := S454 _ _ h395
          have hl396 := hl396.mono S454
          have h404 := h404.mono S454
          have h407 := S454 _ _ h407
          have r410 := r410.mono S454
          have r411 := r411.mono S454
          have hl412 := hl412.mono S454
          have hl448 := hl448.mono S454
          have h456 := R.lst (a := Int) h455 hl448
          refine ⟨[some (V.ref p63), some (V.ref p13), some (V.ref p392), some (V.ref p100), some (V.ref p2), some (V.ref p8), some (V.int y31.1), some v60, some v81, some V.non, some (V.ref p419), none], rfl, _, rfl, rfl, _, rfl, ?_⟩
          rw [isN_opt (F := F452) (r62)]
          refine iteB (fun q457 => ?_) (fun q457 => ?_)
          · have hk := wp_if hk q457
            refine ⟨_, rfl, (by show 0 ≤ sizeLine; decide), fun p458 hp459 => ?_⟩
            have hl465 : RL (a := Int) F452 ([]) ([] : List Int) := RL.nil
            obtain ⟨F460, O461, S462, h463⟩ := O453.putE hp459 (.lst ([]))
            have f_tree := f_tree.mono S462
            have f_order := f_order.mono S462
            have f_held := f_held.mono S462
            have f_barred := f_barred.mono S462
            have h16 := S462 _ _ h16
            have hl17 := hl17.mono S462
            have h24 := h24.mono S462
            have h29 := S462 _ _ h29
            have hl30 := hl30.mono S462
            have S41 := S41.trans S462
            have r55 := r55.mono S462
            have h58 := S462 _ _ h58
            have r62 := r62.mono S462
            have h65 := S462 _ _ h65
            have r68 := r68.mono S462
            have r69 := r69.mono S462
            have h73 := S462 _ _ h73
            have hl74 := hl74.mono S462
            have r84 := r84.mono S462
            have hl89 := hl89.mono S462
            have r94 := r94.mono S462
            have hl99 := hl99.mono S462
            have h103 := S462 _ _ h103
            have hl104 := hl104.mono S462
            have h395 := S462 _ _ h395
            have hl396 := hl396.mono S462
            have h404 := h404.mono S462
            have h407 := S462 _ _ h407
            have r410 := r410.mono S462
            have r411 := r411.mono S462
            have hl412 := hl412.mono S462
            have h456 := h456.mono S462
            have hl465 := hl465.mono S462
            have h464 := R.lst (a := Int) h463 hl465
            refine ⟨_, _, (R.mono h456 O461.s), (R.mono h464 O461.s), _, rfl, ?_⟩
            refine iteD (fun q466 => ?_) (fun q466 => ?_)
            · have hk := wp_if hk q466
              obtain ⟨p467, w468, e469, h470, hl471⟩ := R.lst_ h456
              cases e469
              obtain ⟨y472, e473, hk⟩ := wp_opt hk
              refine ⟨_, rfl, _, acc444, rfl, (by rw [← RL.ints hl471]; exact (SqLF O461.s h470)), (List.length_pos_of_mem (mxI_is e473).1), fun m474 h475 h476 => ?_⟩
              have e477 := mxI_uq e473 h475 h476
              subst e477
              exact hk _ _  O461.g  _ (R.jst R.int)
            · have hk := wp_el hk q466
              exact hk _ _  O461.g  _ R.non
          · have hk := wp_el hk q457
            obtain ⟨y478, e479, hk⟩ := wp_opt hk
            have r480 : R (a := Int) F452 v60 y478 := R.jst_ (by rw [← e479]; exact r62)
            obtain rfl := R.int_ r480
            obtain ⟨p481, w482, e483, h484, hl485⟩ := R.lst_ r68
            cases e483
            obtain ⟨y486, e487, hk⟩ := wp_opt hk
            obtain ⟨w488, e489, r490⟩ := hl485.atI e487
            obtain rfl := R.int_ r490
            refine ⟨_, rfl, _, rfl, _, rfl, _, _, _, _, rfl, rfl, (SqTF O453.s h65), rfl, _, rfl, _, _, _, _, rfl, rfl, (SqLF O453.s h484), e489, _, rfl, _, _, _, _, _, _, _, _, rfl, (O453.pre1 1 rfl), hl89, R.non, wp_call hk (fun r491 er492 hk F493 H494 w496 g495 h497 hl498 => ?_) (fun n hn C H1 hC kp => hn C H1 hC (O453.kp1 kp 1 rfl))⟩
            have O499 := O453.call1 g495 1 rfl h497
            have S_ := g495.f
            have f_tree := f_tree.mono S_
            have f_order := f_order.mono S_
            have f_held := f_held.mono S_
            have f_barred := f_barred.mono S_
            have h16 := S_ _ _ h16
            have hl17 := hl17.mono S_
            have h24 := h24.mono S_
            have h29 := S_ _ _ h29
            have hl30 := hl30.mono S_
            have S41 := S41.trans S_
            have r55 := r55.mono S_
            have h58 := S_ _ _ h58
            have r62 := r62.mono S_
            have h65 := S_ _ _ h65
            have r68 := r68.mono S_
            have r69 := r69.mono S_
            have h73 := S_ _ _ h73
            have hl74 := hl74.mono S_
            have r84 := r84.mono S_
            have r94 := r94.mono S_
            have hl99 := hl99.mono S_
            have h103 := S_ _ _ h103
            have hl104 := hl104.mono S_
            have h395 := S_ _ _ h395
            have hl396 := hl396.mono S_
            have h404 := h404.mono S_
            have h407 := S_ _ _ h407
            have r410 := r410.mono S_
            have r411 := r411.mono S_
            have hl412 := hl412.mono S_
            have h456 := h456.mono S_
            have h484 := S_ _ _ h484
            have hl485 := hl485.mono S_
            refine ⟨_, rfl, _, rfl, _, rfl, (by show 0 ≤ sizeLine; decide), fun p500 hp501 => ?_⟩
            have hl507 : RL (a := Int) F493 ([]) ([] : List Int) := RL.nil
            obtain ⟨F502, O503, S504, h505⟩ := O499.putE hp501 (.lst ([]))
            have f_tree := f_tree.mono S504
            have f_order := f_order.mono S504
            have f_held := f_held.mono S504
            have f_barred := f_barred.mono S504
            have h16 := S504 _ _ h16
            have hl17 := hl17.mono S504
            have h24 := h24.mono S504
            have h29 := S504 _ _ h29
            have hl30 := hl30.mono S504
            have S41 := S41.trans S504
            have r55 := r55.mono S504
            have h58 := S504 _ _ h58
            have r62 := r62.mono S504
            have h65 := S504 _ _ h65
            have r68 := r68.mono S504
            have r69 := r69.mono S504
            have h73 := S504 _ _ h73
            have hl74 := hl74.mono S504
            have r84 := r84.mono S504
            have r94 := r94.mono S504
            have hl99 := hl99.mono S504
            have h103 := S504 _ _ h103
            have hl104 := hl104.mono S504
            have h395 := S504 _ _ h395
            have hl396 := hl396.mono S504
            have h404 := h404.mono S504
            have h407 := S504 _ _ h407
            have r410 := r410.mono S504
            have r411 := r411.mono S504
            have hl412 := hl412.mono S504
            have h456 := h456.mono S504
            have h484 := S504 _ _ h484
            have hl485 := hl485.mono S504
            have hl498 := hl498.mono S504
            have hl507 := hl507.mono S504
            have h506 := R.lst (a := Int) h505 hl507
            refine ⟨_, _, (R.mono h456 O503.s), (R.mono h506 O503.s), _, rfl, ?_⟩
            refine iteD (fun q508 => ?_) (fun q508 => ?_)
            · have hk := wp_if hk q508
              obtain ⟨p509, w510, e511, h512, hl513⟩ := R.lst_ h456
              cases e511
              obtain ⟨y514, e515, hk⟩ := wp_opt hk
              refine ⟨_, rfl, _, acc444, rfl, (by rw [← RL.ints hl513]; exact (SqLF O503.s h512)), (List.length_pos_of_mem (mxI_is e515).1), fun m516 h517 h518 => ?_⟩
              have e519 := mxI_uq e515 h517 h518
              subst e519
              refine ⟨_, _, _, _, _, _, _, _, rfl, (O503.pre1 0 rfl), hl99, (R.jst R.int), wp_call hk (fun r520 er521 hk F522 H523 w525 g524 h526 hl527 => ?_) (fun n hn C H1 hC kp => hn C H1 hC (O503.kp1 kp 0 rfl))⟩
              have O528 := O503.call1 g524 0 rfl h526
              have S_ := g524.f
              have f_tree := f_tree.mono S_
              have f_order := f_order.mono S_
              have f_held := f_held.mono S_
              have f_barred := f_barred.mono S_
              have h16 := S_ _ _ h16
              have hl17 := hl17.mono S_
              have h24 := h24.mono S_
              have h29 := S_ _ _ h29
              have hl30 := hl30.mono S_
              have S41 := S41.trans S_
              have r55 := r55.mono S_
              have h58 := S_ _ _ h58
              have r62 := r62.mono S_
              have h65 := S_ _ _ h65
              have r68 := r68.mono S_
              have r69 := r69.mono S_
              have h73 := S_ _ _ h73
              have hl74 := hl74.mono S_
              have r84 := r84.mono S_
              have r94 := r94.mono S_
              have h103 := S_ _ _ h103
              have hl104 := hl104.mono S_
              have h395 := S_ _ _ h395
              have hl396 := hl396.mono S_
              have h404 := h404.mono S_
              have h407 := S_ _ _ h407
              have r410 := r410.mono S_
              have r411 := r411.mono S_
              have hl412 := hl412.mono S_
              have h456 := h456.mono S_
              have h484 := S_ _ _ h484
              have hl485 := hl485.mono S_
              have hl498 := hl498.mono S_
              have h506 := h506.mono S_
              have h512 := S_ _ _ h512
              have hl513 := hl513.mono S_
              exact ⟨F522, (r491, r520), w496, w525, some (V.int y31.1), some (V.int y478), some v81, some V.non, some (V.ref p419), rfl, S41, O528, hl498, hl527, hk⟩
            · have hk := wp_el hk q508
              refine ⟨_, _, _, _, _, _, _, _, rfl, (O503.pre1 0 rfl), hl99, R.non, wp_call hk (fun r529 er530 hk F531 H532 w534 g533 h535 hl536 => ?_) (fun n hn C H1 hC kp => hn C H1 hC (O503.kp1 kp 0 rfl))⟩
              have O537 := O503.call1 g533 0 rfl h535
              have S_ := g533.f
              have f_tree := f_tree.mono S_
              have f_order := f_order.mono S_
              have f_held := f_held.mono S_
              have f_barred := f_barred.mono S_
              have h16 := S_ _ _ h16
              have hl17 := hl17.mono S_
              have h24 := h24.mono S_
              have h29 := S_ _ _ h29
              have hl30 := hl30.mono S_
              have S41 := S41.trans S_
              have r55 := r55.mono S_
              have h58 := S_ _ _ h58
              have r62 := r62.mono S_
              have h65 := S_ _ _ h65
              have r68 := r68.mono S_
              have r69 := r69.mono S_
              have h73 := S_ _ _ h73
              have hl74 := hl74.mono S_
              have r84 := r84.mono S_
              have r94 := r94.mono S_
              have h103 := S_ _ _ h103
              have hl104 := hl104.mono S_
              have h395 := S_ _ _ h395
              have hl396 := hl396.mono S_
              have h404 := h404.mono S_
              have h407 := S_ _ _ h407
              have r410 := r410.mono S_
              have r411 := r411.mono S_
              have hl412 := hl412.mono S_
              have h456 := h456.mono S_
              have h484 := S_ _ _ h484
              have hl485 := hl485.mono S_
              have hl498 := hl498.mono S_
              have h506 := h506.mono S_
              exact ⟨F531, (r491, r529), w496, w534, some (V.int y31.1), some (V.int y478), some v81, some V.non, some (V.ref p419), rfl, S41, O537, hl498, hl536, hk⟩
        · have hk := wp_el hk q397
          refine ⟨_, rfl, _, rfl, (by show 2 ≤ sizeLine; decide), fun p538 hp539 => ?_⟩
          obtain ⟨F540, O541, S542, h543⟩ := O98.putE hp539 (.tup [v81, v91])
          have f_tree := f_tree.mono S542
          have f_order := f_order.mono S542
          have f_held := f_held.mono S542
          have f_barred := f_barred.mono S542
          have h16 := S542 _ _ h16
          have hl17 := hl17.mono S542
          have h24 := h24.mono S542
          have h29 := S542 _ _ h29
          have hl30 := hl30.mono S542
          have S41 := S41.trans S542
          have r55 := r55.mono S542
          have h58 := S542 _ _ h58
          have r62 := r62.mono S542
          have h65 := S542 _ _ h65
          have r68 := r68.mono S542
          have r69 := r69.mono S542
          have h73 := S542 _ _ h73
          have hl74 := hl74.mono S542
          have r84 := r84.mono S542
          have hl89 := hl89.mono S542
          have r94 := r94.mono S542
          have hl99 := hl99.mono S542
          have h103 := S542 _ _ h103
          have hl104 := hl104.mono S542
          have h395 := S542 _ _ h395
          have hl396 := hl396.mono S542
          have h544 : R (a := ((Option Int) × (Option Int))) F540 (.ref p538) (((dGet st42.1 y31.1).getD (some y75)), ((dGet st42.2 y31.1).getD (some (0 : Int)))) := R.t2 h543 r84 r94
          obtain ⟨p545, v548, v549, e546, h547, r550, r551⟩ := R.t2_ h544
          cases e546
          have hl552 : RL (a := (Option Int)) F540 [v548, v549] [(((dGet st42.1 y31.1).getD (some y75)), ((dGet st42.2 y31.1).getD (some (0 : Int)))).1, (((dGet st42.1 y31.1).getD (some y75)), ((dGet st42.2 y31.1).getD (some (0 : Int)))).2] := RL.cons r550 (RL.cons r551 RL.nil)
          obtain ⟨c558, L554, hL555, hLs556, hLd557⟩ := compS_L hk
          refine ⟨_, rfl, ⟨_, (SqTF O541.s h547)⟩, fun p559 hp560 => ?_⟩
          have z580 := O541.was hp560
          refine lc_tup (K := K) (xs := [v548, v549]) (fun i H => ∃ (F_ : Hp) (st : Unit) (acc : List Int) (wa : List V), Same F540 F_ ∧ Ow _ F_ [(p559, .lst wa), (p8, .dK (w92)), (p2, .dK (w82))] H ∧ RL F_ wa acc ∧ wa.length ≤ i ∧ L554 (List.drop i ([(((dGet st42.1 y31.1).getD (some y75)), ((dGet st42.2 y31.1).getD (some (0 : Int)))).1, (((dGet st42.1 y31.1).getD (some y75)), ((dGet st42.2 y31.1).getD (some (0 : Int)))).2])) acc st) ⟨F540, (), [], [], Same.refl _, O541.new hp560, RL.nil, Nat.zero_le _, hL555⟩ (fun i_ H_ _ hp_ => ?_) ?_ ?_
          · obtain ⟨_, _, _, _, hS_, hO_, _⟩ := hp_
            exact SqTF hO_.s (hS_ _ _ h547)
          · rintro i561 x562 H563 hi564 ⟨F569, st570, acc566, wa567, S571, O573, hl572, la568, hL555⟩
            have f_tree := f_tree.mono S571
            have f_order := f_order.mono S571
            have f_held := f_held.mono S571
            have f_barred := f_barred.mono S571
            have h16 := S571 _ _ h16
            have hl17 := hl17.mono S571
            have h24 := h24.mono S571
            have h29 := S571 _ _ h29
            have hl30 := hl30.mono S571
            have S41 := S41.trans S571
            have r55 := r55.mono S571
            have h58 := S571 _ _ h58
            have r62 := r62.mono S571
            have h65 := S571 _ _ h65
            have r68 := r68.mono S571
            have r69 := r69.mono S571
            have h73 := S571 _ _ h73
            have hl74 := hl74.mono S571
            have r84 := r84.mono S571
            have hl89 := hl89.mono S571
            have r94 := r94.mono S571
            have hl99 := hl99.mono S571
            have h103 := S571 _ _ h103
            have hl104 := hl104.mono S571
            have h395 := S571 _ _ h395
            have hl396 := hl396.mono S571
            have h544 := h544.mono S571
            have h547 := S571 _ _ h547
            have r550 := r550.mono S571
            have r551 := r551.mono S571
            have hl552 := hl552.mono S571
            obtain ⟨y553, e574, r575⟩ := RL.got hl552 hi564
            rw [drop_at e574] at hL555
            have hk := hLs556 _ _ _ _ hL555
            refine ⟨rfl, _, rfl, rfl, _, rfl, ?_⟩
            rw [isN_opt (F := F569) (r575)]
            refine iteBN (fun q576 => ?_) (fun q576 => ?_)
            · have hk := wp_if hk q576
              exact ⟨F569, (), acc566, wa567, S571, O573, hl572, Nat.le_succ_of_le la568, hk⟩
            · have hk := wp_el hk q576
              obtain ⟨y577, e578, hk⟩ := wp_opt hk
              have r579 : R (a := Int) F569 x562 y577 := R.jst_ (by rw [← e578]; exact r575)
              obtain rfl := R.int_ r579
              refine ⟨_, rfl, _, (O573.at 0 rfl), (comp_len la568 hi564 hl552.len c558), ?_⟩
              exact ⟨F569, (), acc566 ++ [y577], wa567 ++ [V.int y577], S571, O573.set 0 (.lst (wa567 ++ [V.int y577])) rfl, RL.snoc hl572 R.int, by rw [List.length_append]; exact Nat.succ_le_succ la568, hk⟩
          rintro H581 ⟨F582, st583, acc584, wa585, S586, O587, hl588, la589, hL590⟩
          rw [drop_end hl552.len] at hL590
          have hk := hLd557 _ _ hL590
          have f_tree := f_tree.mono S586
          have f_order := f_order.mono S586
          have f_held := f_held.mono S586
          have f_barred := f_barred.mono S586
          have h16 := S586 _ _ h16
          have hl17 := hl17.mono S586
          have h24 := h24.mono S586
          have h29 := S586 _ _ h29
          have hl30 := hl30.mono S586
          have S41 := S41.trans S586
          have r55 := r55.mono S586
          have h58 := S586 _ _ h58
          have r62 := r62.mono S586
          have h65 := S586 _ _ h65
          have r68 := r68.mono S586
          have r69 := r69.mono S586
          have h73 := S586 _ _ h73
          have hl74 := hl74.mono S586
          have r84 := r84.mono S586
          have hl89 := hl89.mono S586
          have r94 := r94.mono S586
          have hl99 := hl99.mono S586
          have h103 := S586 _ _ h103
          have hl104 := hl104.mono S586
          have h395 := S586 _ _ h395
          have hl396 := hl396.mono S586
          have h544 := h544.mono S586
          have h547 := S586 _ _ h547
          have r550 := r550.mono S586
          have r551 := r551.mono S586
          have hl552 := hl552.mono S586
          obtain ⟨F592, O593, S594, h595⟩ := O587.frzE 0 rfl z580
          have f_tree := f_tree.mono S594
          have f_order := f_order.mono S594
          have f_held := f_held.mono S594
          have f_barred := f_barred.mono S594
          have h16 := S594 _ _ h16
          have hl17 := hl17.mono S594
          have h24 := h24.mono S594
          have h29 := S594 _ _ h29
          have hl30 := hl30.mono S594
          have S41 := S41.trans S594
          have r55 := r55.mono S594
          have h58 := S594 _ _ h58
          have r62 := r62.mono S594
          have h65 := S594 _ _ h65
          have r68 := r68.mono S594
          have r69 := r69.mono S594
          have h73 := S594 _ _ h73
          have hl74 := hl74.mono S594
          have r84 := r84.mono S594
          have hl89 := hl89.mono S594
          have r94 := r94.mono S594
          have hl99 := hl99.mono S594
          have h103 := S594 _ _ h103
          have hl104 := hl104.mono S594
          have h395 := S594 _ _ h395
          have hl396 := hl396.mono S594
          have h544 := h544.mono S594
          have h547 := S594 _ _ h547
          have r550 := r550.mono S594
          have r551 := r551.mono S594
          have hl552 := hl552.mono S594
          have hl588 := hl588.mono S594
          have h596 := R.lst (a := Int) h595 hl588
          refine ⟨[some (V.ref p63), some (V.ref p13), some (V.ref p392), some (V.ref p100), some (V.ref p2), some (V.ref p8), some (V.int y31.1), some v60, some v81, some v91, some (V.ref p559), none], rfl, _, rfl, rfl, _, rfl, ?_⟩
          rw [isN_opt (F := F592) (r62)]
          refine iteB (fun q597 => ?_) (fun q597 => ?_)
          · have hk := wp_if hk q597
            refine ⟨_, rfl, (by show 0 ≤ sizeLine; decide), fun p598 hp599 => ?_⟩
            have hl605 : RL (a := Int) F592 ([]) ([] : List Int) := RL.nil
            obtain ⟨F600, O601, S602, h603⟩ := O593.putE hp599 (.lst ([]))
            have f_tree := f_tree.mono S602
            have f_order := f_order.mono S602
            have f_held := f_held.mono S602
            have f_barred := f_barred.mono S602
            have h16 := S602 _ _ h16
            have hl17 := hl17.mono S602
            have h24 := h24.mono S602
            have h29 := S602 _ _ h29
            have hl30 := hl30.mono S602
            have S41 := S41.trans S602
            have r55 := r55.mono S602
            have h58 := S602 _ _ h58
            have r62 := r62.mono S602
            have h65 := S602 _ _ h65
            have r68 := r68.mono S602
            have r69 := r69.mono S602
            have h73 := S602 _ _ h73
            have hl74 := hl74.mono S602
            have r84 := r84.mono S602
            have hl89 := hl89.mono S602
            have r94 := r94.mono S602
            have hl99 := hl99.mono S602
            have h103 := S602 _ _ h103
            have hl104 := hl104.mono S602
            have h395 := S602 _ _ h395
            have hl396 := hl396.mono S602
            have h544 := h544.mono S602
            have h547 := S602 _ _ h547
            have r550 := r550.mono S602
            have r551 := r551.mono S602
            have hl552 := hl552.mono S602
            have h596 := h596.mono S602
            have hl605 := hl605.mono S602
            have h604 := R.lst (a := Int) h603 hl605
            refine ⟨_, _, (R.mono h596 O601.s), (R.mono h604 O601.s), _, rfl, ?_⟩
            refine iteD (fun q606 => ?_) (fun q606 => ?_)
            · have hk := wp_if hk q606
              obtain ⟨p607, w608, e609, h610, hl611⟩ := R.lst_ h596
              cases e609
              obtain ⟨y612, e613, hk⟩ := wp_opt hk
              refine ⟨_, rfl, _, acc584, rfl, (by rw [← RL.ints hl611]; exact (SqLF O601.s h610)), (List.length_pos_of_mem (mxI_is e613).1), fun m614 h615 h616 => ?_⟩
              have e617 := mxI_uq e613 h615 h616
              subst e617
              exact hk _ _  O601.g  _ (R.jst R.int)
            · have hk := wp_el hk q606
              exact hk _ _  O601.g  _ R.non
          · have hk := wp_el hk q597
            obtain ⟨y618, e619, hk⟩ := wp_opt hk
            have r620 : R (a := Int) F592 v60 y618 := R.jst_ (by rw [← e619]; exact r62)
            obtain rfl := R.int_ r620
            obtain ⟨p621, w622, e623, h624, hl625⟩ := R.lst_ r68
            cases e623
            obtain ⟨y626, e627, hk⟩ := wp_opt hk
            obtain ⟨w628, e629, r630⟩ := hl625.atI e627
            obtain rfl := R.int_ r630
            refine ⟨_, rfl, _, rfl, _, rfl, _, _, _, _, rfl, rfl, (SqTF O593.s h65), rfl, _, rfl, _, _, _, _, rfl, rfl, (SqLF O593.s h624), e629, _, rfl, _, _, _, _, _, _, _, _, rfl, (O593.pre1 1 rfl), hl89, r94, wp_call hk (fun r631 er632 hk F633 H634 w636 g635 h637 hl638 => ?_) (fun n hn C H1 hC kp => hn C H1 hC (O593.kp1 kp 1 rfl))⟩
            have O639 := O593.call1 g635 1 rfl h637
            have S_ := g635.f
            have f_tree := f_tree.mono S_
            have f_order := f_order.mono S_
            have f_held := f_held.mono S_
            have f_barred := f_barred.mono S_
            have h16 := S_ _ _ h16
            have hl17 := hl17.mono S_
            have h24 := h24.mono S_
            have h29 := S_ _ _ h29
            have hl30 := hl30.mono S_
            have S41 := S41.trans S_
            have r55 := r55.mono S_
            have h58 := S_ _ _ h58
            have r62 := r62.mono S_
            have h65 := S_ _ _ h65
            have r68 := r68.mono S_
            have r69 := r69.mono S_
            have h73 := S_ _ _ h73
            have hl74 := hl74.mono S_
            have r84 := r84.mono S_
            have r94 := r94.mono S_
            have hl99 := hl99.mono S_
            have h103 := S_ _ _ h103
            have hl104 := hl104.mono S_
            have h395 := S_ _ _ h395
            have hl396 := hl396.mono S_
            have h544 := h544.mono S_
            have h547 := S_ _ _ h547
            have r550 := r550.mono S_
            have r551 := r551.mono S_
            have hl552 := hl552.mono S_
            have h596 := h596.mono S_
            have h624 := S_ _ _ h624
            have hl625 := hl625.mono S_
            refine ⟨_, rfl, _, rfl, _, rfl, (by show 0 ≤ sizeLine; decide), fun p640 hp641 => ?_⟩
            have hl647 : RL (a := Int) F633 ([]) ([] : List Int) := RL.nil
            obtain ⟨F642, O643, S644, h645⟩ := O639.putE hp641 (.lst ([]))
            have f_tree := f_tree.mono S644
            have f_order := f_order.mono S644
            have f_held := f_held.mono S644
            have f_barred := f_barred.mono S644
            have h16 := S644 _ _ h16
            have hl17 := hl17.mono S644
            have h24 := h24.mono S644
            have h29 := S644 _ _ h29
            have hl30 := hl30.mono S644
            have S41 := S41.trans S644
            have r55 := r55.mono S644
            have h58 := S644 _ _ h58
            have r62 := r62.mono S644
            have h65 := S644 _ _ h65
            have r68 := r68.mono S644
            have r69 := r69.mono S644
            have h73 := S644 _ _ h73
            have hl74 := hl74.mono S644
            have r84 := r84.mono S644
            have r94 := r94.mono S644
            have hl99 := hl99.mono S644
            have h103 := S644 _ _ h103
            have hl104 := hl104.mono S644
            have h395 := S644 _ _ h395
            have hl396 := hl396.mono S644
            have h544 := h544.mono S644
            have h547 := S644 _ _ h547
            have r550 := r550.mono S644
            have r551 := r551.mono S644
            have hl552 := hl552.mono S644
            have h596 := h596.mono S644
            have h624 := S644 _ _ h624
            have hl625 := hl625.mono S644
            have hl638 := hl638.mono S644
            have hl647 := hl647.mono S644
            have h646 := R.lst (a := Int) h645 hl647
            refine ⟨_, _, (R.mono h596 O643.s), (R.mono h646 O643.s), _, rfl, ?_⟩
            refine iteD (fun q648 => ?_) (fun q648 => ?_)
            · have hk := wp_if hk q648
              obtain ⟨p649, w650, e651, h652, hl653⟩ := R.lst_ h596
              cases e651
              obtain ⟨y654, e655, hk⟩ := wp_opt hk
              refine ⟨_, rfl, _, acc584, rfl, (by rw [← RL.ints hl653]; exact (SqLF O643.s h652)), (List.length_pos_of_mem (mxI_is e655).1), fun m656 h657 h658 => ?_⟩
              have e659 := mxI_uq e655 h657 h658
              subst e659
              refine ⟨_, _, _, _, _, _, _, _, rfl, (O643.pre1 0 rfl), hl99, (R.jst R.int), wp_call hk (fun r660 er661 hk F662 H663 w665 g664 h666 hl667 => ?_) (fun n hn C H1 hC kp => hn C H1 hC (O643.kp1 kp 0 rfl))⟩
              have O668 := O643.call1 g664 0 rfl h666
              have S_ := g664.f
              have f_tree := f_tree.mono S_
              have f_order := f_order.mono S_
              have f_held := f_held.mono S_
              have f_barred := f_barred.mono S_
              have h16 := S_ _ _ h16
              have hl17 := hl17.mono S_
              have h24 := h24.mono S_
              have h29 := S_ _ _ h29
              have hl30 := hl30.mono S_
              have S41 := S41.trans S_
              have r55 := r55.mono S_
              have h58 := S_ _ _ h58
              have r62 := r62.mono S_
              have h65 := S_ _ _ h65
              have r68 := r68.mono S_
              have r69 := r69.mono S_
              have h73 := S_ _ _ h73
              have hl74 := hl74.mono S_
              have r84 := r84.mono S_
              have r94 := r94.mono S_
              have h103 := S_ _ _ h103
              have hl104 := hl104.mono S_
              have h395 := S_ _ _ h395
              have hl396 := hl396.mono S_
              have h544 := h544.mono S_
              have h547 := S_ _ _ h547
              have r550 := r550.mono S_
              have r551 := r551.mono S_
              have hl552 := hl552.mono S_
              have h596 := h596.mono S_
              have h624 := S_ _ _ h624
              have hl625 := hl625.mono S_
              have hl638 := hl638.mono S_
              have h646 := h646.mono S_
              have h652 := S_ _ _ h652
              have hl653 := hl653.mono S_
              exact ⟨F662, (r631, r660), w636, w665, some (V.int y31.1), some (V.int y618), some v81, some v91, some (V.ref p559), rfl, S41, O668, hl638, hl667, hk⟩
            · have hk := wp_el hk q648
              refine ⟨_, _, _, _, _, _, _, _, rfl, (O643.pre1 0 rfl), hl99, R.non, wp_call hk (fun r669 er670 hk F671 H672 w674 g673 h675 hl676 => ?_) (fun n hn C H1 hC kp => hn C H1 hC (O643.kp1 kp 0 rfl))⟩
              have O677 := O643.call1 g673 0 rfl h675
              have S_ := g673.f
              have f_tree := f_tree.mono S_
              have f_order := f_order.mono S_
              have f_held := f_held.mono S_
              have f_barred := f_barred.mono S_
              have h16 := S_ _ _ h16
              have hl17 := hl17.mono S_
              have h24 := h24.mono S_
              have h29 := S_ _ _ h29
              have hl30 := hl30.mono S_
              have S41 := S41.trans S_
              have r55 := r55.mono S_
              have h58 := S_ _ _ h58
              have r62 := r62.mono S_
              have h65 := S_ _ _ h65
              have r68 := r68.mono S_
              have r69 := r69.mono S_
              have h73 := S_ _ _ h73
              have hl74 := hl74.mono S_
              have r84 := r84.mono S_
              have r94 := r94.mono S_
              have h103 := S_ _ _ h103
              have hl104 := hl104.mono S_
              have h395 := S_ _ _ h395
              have hl396 := hl396.mono S_
              have h544 := h544.mono S_
              have h547 := S_ _ _ h547
              have r550 := r550.mono S_
              have r551 := r551.mono S_
              have hl552 := hl552.mono S_
              have h596 := h596.mono S_
              have h624 := S_ _ _ h624
              have hl625 := hl625.mono S_
              have hl638 := hl638.mono S_
              have h646 := h646.mono S_
              exact ⟨F671, (r631, r669), w636, w674, some (V.int y31.1), some (V.int y618), some v81, some v91, some (V.ref p559), rfl, S41, O677, hl638, hl676, hk⟩
    rintro sg678 H679 ⟨F692, st681, w683, w684, t687, t688, t689, t690, t691, rfl, S680, O693, hl685, hl686, hL682⟩
    rw [drop_end hl30.len] at hL682
    have hk := hLd35 _ hL682
    have f_tree := f_tree.mono S680
    have f_order := f_order.mono S680
    have f_held := f_held.mono S680
    have f_barred := f_barred.mono S680
    have h16 := S680 _ _ h16
    have hl17 := hl17.mono S680
    have h24 := h24.mono S680
    have h29 := S680 _ _ h29
    have hl30 := hl30.mono S680
    exact hk _ _  O693.g  _ R.non
abbrev s_best_set : Stmt := top 19
theorem sc_best_set : FnScope ["tree", "order", "most", "held", "barred", "place", "one"] ["tree"] (defScope s_best_set) := ⟨rfl, rfl, rfl, by decide +kernel, rfl, by decide +kernel, by decide +kernel⟩
def m_best_set (x_tree : ((List Int) × (List (T3 Int Int Int)))) : M ((List Int)) :=
m_hung_from x_tree (0 : Int) >>= fun r1 =>
m_greatest_apart x_tree r1 ([] : List Int) ([] : List Int) >>= fun r36 =>
chk (okR (x_tree.1.length : Int)) >>= fun _ =>
loopM (fun (y68 : Int) (st80 : (List Int) × (List Int)) =>
compS (fun (y88 : Int) (st105 : Unit) =>
opt (atI x_tree.1 y88) >>= fun y116 =>
.ok (some y116, ())) st80.1 () >>= fun q132 =>
if (some (List.sum q132.1)) = r36 then (
.ok (.rt st80.1))
else (
chk (st80.1.length + ([y68]).length < 16777216) >>= fun _ =>
m_greatest_apart x_tree r1 (st80.1 ++ ([y68])) st80.2 >>= fun r170 =>
if r170 = r36 then (
appL st80.1 y68 >>= fun _ =>
.ok (.nx ((st80.1 ++ [y68]), st80.2)))
else (
appL st80.2 y68 >>= fun _ =>
.ok (.nx (st80.1, (st80.2 ++ [y68])))))) (rangeL 0 (x_tree.1.length : Int)) (([] : List Int), ([] : List Int)) >>= fun f203 => match f203 with
| .rt z_ => .ok z_
| .nx st194 =>
.ok st194.1
def sp_best_set (mg : Str → Option Value) : Sp := fun vs H Q E => ∃ (F : Hp) (v_tree : V) (x_tree : ((List Int) × (List (T3 Int Int Int)))), vs = [v_tree] ∧ Pre F [] H ∧ R (a := ((List Int) × (List (T3 Int Int Int)))) F v_tree x_tree ∧
  wp (m_best_set x_tree) (fun r => ∀ (F' H' : Hp), Gr [] F H F' H' → ∀ (p : Addr) (w : (List V)), H p = none → F' p = none → H' p = some (.lst w) → RL (a := Int) F' w r → Q (.ref p) H')
  (fun n => ∀ (C : Addr) (H' : Hp), mg (Str.ofString n) = some (.ref C) → Kp [] H H' → E (.ref C) none H')
set_option maxHeartbeats 20000000 in
theorem ok_best_set (nb : Nb mg) (C_greatest_apart : Ca P w K mg base "greatest_apart" 2 ["tree", "order", "held", "barred"] (sp_greatest_apart mg)) (C_hung_from : Ca P w K mg base "hung_from" 3 ["tree", "seat"] (sp_hung_from mg)) (D : Df K mg "best_set" "best_set" s_best_set ["tree"]) : Ca P w K mg base "best_set" 4 ["tree"] (sp_best_set mg) := by
  obtain ⟨fa_greatest_apart, fd_greatest_apart, G_greatest_apart, M_greatest_apart, K_greatest_apart, B_greatest_apart⟩ := C_greatest_apart.ex
  obtain ⟨fa_hung_from, fd_hung_from, G_hung_from, M_hung_from, K_hung_from, B_hung_from⟩ := C_hung_from.ex
  refine Ca.mk' D sc_best_set (fun vs H Q E h => ?_) (fun q_ f_ cdv A outer s H vs Q E hr h => ?_)
  · obtain ⟨F, _, _, rfl, _⟩ := h
    rfl
  · obtain ⟨F, v_tree, x_tree, rfl, P0, f_tree, hk⟩ := h
    have nd := sc_best_set.nd
    have hu64 := hr.units
    have hu128 := hu128_of hr
    have O := P0.start
    refine ⟨_, (pss_cons (ps_toN (ps_set (i := 1) nd rfl (Or.inl rfl) (pe_call G_hung_from (hr.mono (by decide)) rfl M_hung_from K_hung_from B_hung_from .nil (passes_call (takes_of rfl rfl rfl rfl) fun _ _ _ _ h => h) (pa_cons (pv 0) (pa_cons pe_int pa_nil)))))
  (pss_cons (ps_toN (ps_set (i := 2) nd rfl (Or.inl rfl) (pe_call G_greatest_apart (hr.mono (by decide)) rfl M_greatest_apart K_greatest_apart B_greatest_apart .nil (passes_call (takes_of rfl rfl rfl rfl) fun _ _ _ _ h => h) (pa_cons (pv 0) (pa_cons (pv 1) (pa_cons (pe_lst pa_nil) (pa_cons (pe_lst pa_nil) pa_nil)))))))
  (pss_cons (ps_toN (ps_set (i := 3) nd rfl (Or.inl rfl) (pe_lst pa_nil)))
  (pss_cons (ps_toN (ps_set (i := 4) nd rfl (Or.inl rfl) (pe_lst pa_nil)))
  (pss_cons (ps_for (passes_of rfl) rfl (pi_range1 rfl nb.b_range (pa_cons (pe_callB call_lenT (by rfl) nb.b_len PySem.boot_len (pa_cons (pe_ix (ixTupK (K := K) rfl) (pv 0) pe_int (fun _ _ => rfl)) pa_nil)) pa_nil)) (pg_name (i := 5) nd rfl (Or.inl rfl)) (pss_cons (ps_if (pt_cmpR (op_eqT (Option Int) hu64) (pe_callB (cr_sumK (K := K) rfl rfl) (by rfl) nb.b_sum (by decide +kernel) (pa_cons (pe_lc (own := [("one", 6)]) (g := gName 6) (tt := _) rfl nd (piListK (K := K) rfl (pv 3)) (blkOk_by (own := [("one", 6)]) (N := ["tree", "order", "most", "held", "barred", "place", "one"]) (sc := defScope s_best_set) (by decide +kernel)) (fun _ _ _ _ _ => (pg_name (i := 6) nd rfl (Or.inl rfl))) (fun _ _ _ _ _ => pts_nil) (fun _ _ _ _ _ => (pe_ix (ixListK (K := K) rfl) (pe_ix (ixTupK (K := K) rfl) (pv 0) pe_int (fun _ _ => rfl)) (pv 6) (fun _ _ => rfl)))) pa_nil)) (pv 2) (nomark _)) (pss_one (ps_ret (pv 3))) pss_nil)
  (pss_one (ps_if (pt_cmpR (op_eqT (Option Int) hu64) (pe_call G_greatest_apart (hr.mono (by decide)) rfl M_greatest_apart K_greatest_apart B_greatest_apart .nil (passes_call (takes_of rfl rfl rfl rfl) fun _ _ _ _ h => h) (pa_cons (pv 0) (pa_cons (pv 1) (pa_cons (pe_op op_cat (pv 3) (pe_lst (pa_cons (pv 5) pa_nil))) (pa_cons (pv 4) pa_nil))))) (pv 2) (nomark _)) (pss_one (ps_expr (bmK (K := K) rfl (pe_bm PySem.F.plainAttrs_list PySem.F.slot_list_append PySem.F.type_list_append mt_append (pv 3) (pa_cons (pv 5) pa_nil))))) (pss_one (ps_expr (bmK (K := K) rfl (pe_bm PySem.F.plainAttrs_list PySem.F.slot_list_append PySem.F.type_list_append mt_append (pv 4) (pa_cons (pv 5) pa_nil)))))))))
  (pss_one (ps_ret (pv 3)))))))), ?_⟩
    refine ⟨_, rfl, _, _, _, _, rfl, O.pre0, f_tree, wp_call hk (fun r1 er2 hk F3 H4 g5 p6 w7 hn8 hf9 h10 hl11 => ?_) (fun n hn C H1 hC kp => hn C H1 hC (O.kp0 kp))⟩
    have O12 := O.call0 g5
    have S_ := g5.f
    have f_tree := f_tree.mono S_
    have O13 := O.got O12 rfl hn8 hf9 h10
    have z14 := O.was hn8
    obtain ⟨F15, O16, S17, h18⟩ := O13.frzE 0 rfl z14
    have f_tree := f_tree.mono S17
    have hl11 := hl11.mono S17
    have h19 := R.lst (a := (Int × (Option Int))) h18 hl11
    refine ⟨[some v_tree, some (V.ref p6), none, none, none, none, none], rfl, _, rfl, _, rfl, (by show 0 ≤ sizeLine; decide), fun p20 hp21 => ?_⟩
    have hl27 : RL (a := Int) F15 ([]) ([] : List Int) := RL.nil
    obtain ⟨F22, O23, S24, h25⟩ := O16.putE hp21 (.lst ([]))
    have f_tree := f_tree.mono S24
    have h19 := h19.mono S24
    have hl27 := hl27.mono S24
    have h26 := R.lst (a := Int) h25 hl27
    refine ⟨(by show 0 ≤ sizeLine; decide), fun p28 hp29 => ?_⟩
    have hl35 : RL (a := Int) F22 ([]) ([] : List Int) := RL.nil
    obtain ⟨F30, O31, S32, h33⟩ := O23.putE hp29 (.lst ([]))
    have f_tree := f_tree.mono S32
    have h19 := h19.mono S32
    have h26 := h26.mono S32
    have hl35 := hl35.mono S32
    have h34 := R.lst (a := Int) h33 hl35
    refine ⟨_, _, _, _, _, _, _, _, _, rfl, O31.pre0, f_tree, h19, h26, h34, wp_call hk (fun r36 er37 hk F38 H39 g40 v41 r42 => ?_) (fun n hn C H1 hC kp => hn C H1 hC (O31.kp0 kp))⟩
    have O43 := O31.call0 g40
    have S_ := g40.f
    have f_tree := f_tree.mono S_
    have h19 := h19.mono S_
    have h26 := h26.mono S_
    have h34 := h34.mono S_
    refine ⟨[some v_tree, some (V.ref p6), some v41, none, none, none, none], rfl, (by show 0 ≤ sizeLine; decide), fun p45 hp46 => ?_⟩
    have hl48 : RL (a := Int) F38 ([]) ([] : List Int) := RL.nil
    have z49 := O43.was hp46
    have O47 := O43.new (o := .lst ([])) hp46
    refine ⟨[some v_tree, some (V.ref p6), some v41, some (V.ref p45), none, none, none], rfl, (by show 0 ≤ sizeLine; decide), fun p51 hp52 => ?_⟩
    have hl54 : RL (a := Int) F38 ([]) ([] : List Int) := RL.nil
    have z55 := O47.was hp52
    have O53 := O47.new (o := .lst ([])) hp52
    obtain ⟨p56, v59, v60, e57, h58, r61, r62⟩ := R.t2_ f_tree
    cases e57
    obtain ⟨p63, w64, e65, h66, hl67⟩ := R.lst_ r61
    cases e65
    obtain ⟨c69, hk⟩ := wp_chk hk
    obtain ⟨L70, hL71, hLs72, hLd73⟩ := loopM_L hk
    refine ⟨[some (V.ref p56), some (V.ref p6), some v41, some (V.ref p45), some (V.ref p51), none, none], rfl, _, rfl, _, _, _, _, rfl, rfl, (SqTF O53.s h58), rfl, _, _, _, rfl, (.inl (O53.s _ _ h66)), hl67.len, _, rfl, c69.lo, c69.hi, ?_⟩
    refine for_range (lo := 0) (n := ((x_tree.1.length : Int)).toNat) (fun i σ H_ => ∃ (F_ : Hp) (st : (List Int) × (List Int)) (w_0 : (List V)) (w_1 : (List V)) (t_0 : Option V), σ = [some (V.ref p56), some (V.ref p6), some v41, some (V.ref p45), some (V.ref p51), t_0, none] ∧ Same F38 F_ ∧ Ow _ F_ [(p51, .lst w_1), (p45, .lst w_0)] H_ ∧ RL (a := Int) F_ w_0 st.1 ∧ RL (a := Int) F_ w_1 st.2 ∧ L70 (List.drop i (rangeL 0 (x_tree.1.length : Int))) st) ⟨F38, (([] : List Int), ([] : List Int)), [], [], none, rfl, Same.refl _, O53, hl48, hl54, hL71⟩ ?_ ?_
    · rintro i74 sg76 H77 hi78 ⟨F86, st80, w81, w82, t85, rfl, S79, O87, hl83, hl84, hL71⟩
      have f_tree := f_tree.mono S79
      have h19 := h19.mono S79
      have h26 := h26.mono S79
      have h34 := h34.mono S79
      have r42 := r42.mono S79
      have h58 := S79 _ _ h58
      have r61 := r61.mono S79
      have r62 := r62.mono S79
      have h66 := S79 _ _ h66
      have hl67 := hl67.mono S79
      rw [rangeL_get0 hi78] at hL71
      have hk := hLs72 _ _ _ hL71
      obtain ⟨y68, he_⟩ : ∃ z_, z_ = 0 + (i74 : Int) := ⟨_, rfl⟩
      try rw [← he_] at hk
      rw [← he_]
      obtain ⟨c93, L89, hL90, hLs91, hLd92⟩ := compS_L hk
      refine ⟨_, rfl, _, rfl, ⟨_, (SqL.of (O87.at 1 rfl))⟩, fun p94 hp95 => ?_⟩
      have z121 := O87.was hp95
      refine lc_list (K := K) (xs := w81) (fun i H => ∃ (F_ : Hp) (st : Unit) (acc : List Int) (wa : List V), Same F86 F_ ∧ Ow _ F_ [(p94, .lst wa), (p51, .lst w82), (p45, .lst w81)] H ∧ RL F_ wa acc ∧ wa.length ≤ i ∧ L89 (List.drop i st80.1) acc st) ⟨F86, (), [], [], Same.refl _, O87.new hp95, RL.nil, Nat.zero_le _, hL90⟩ (fun i_ H_ _ hp_ => ?_) ?_ ?_
      · obtain ⟨_, _, _, _, hS_, hO_, _⟩ := hp_
        exact SqL.of (hO_.at 2 rfl)
      · rintro i96 x97 H98 hi99 ⟨F104, st105, acc101, wa102, S106, O108, hl107, la103, hL90⟩
        have f_tree := f_tree.mono S106
        have h19 := h19.mono S106
        have h26 := h26.mono S106
        have h34 := h34.mono S106
        have r42 := r42.mono S106
        have h58 := S106 _ _ h58
        have r61 := r61.mono S106
        have r62 := r62.mono S106
        have h66 := S106 _ _ h66
        have hl67 := hl67.mono S106
        have hl83 := hl83.mono S106
        have hl84 := hl84.mono S106
        have S79 := S79.trans S106
        obtain ⟨y88, e109, r110⟩ := RL.got hl83 hi99
        rw [drop_at e109] at hL90
        have hk := hLs91 _ _ _ _ hL90
        obtain rfl := R.int_ r110
        refine ⟨rfl, ?_⟩
        obtain ⟨p111, w112, e113, h114, hl115⟩ := R.lst_ r61
        cases e113
        obtain ⟨y116, e117, hk⟩ := wp_opt hk
        obtain ⟨w118, e119, r120⟩ := hl115.atI e117
        obtain rfl := R.int_ r120
        refine ⟨_, rfl, _, _, _, _, rfl, rfl, (SqTF O108.s h58), rfl, _, rfl, _, _, _, _, rfl, rfl, (SqLF O108.s h114), e119, _, (O108.at 0 rfl), (comp_len la103 hi99 hl83.len c93), ?_⟩
        exact ⟨F104, (), acc101 ++ [y116], wa102 ++ [V.int y116], S106, O108.set 0 (.lst (wa102 ++ [V.int y116])) rfl, RL.snoc hl107 R.int, by rw [List.length_append]; exact Nat.succ_le_succ la103, hk⟩
      rintro H122 ⟨F123, st124, acc125, wa126, S127, O128, hl129, la130, hL131⟩
      rw [drop_end hl83.len] at hL131
      have hk := hLd92 _ _ hL131
      have f_tree := f_tree.mono S127
      have h19 := h19.mono S127
      have h26 := h26.mono S127
      have h34 := h34.mono S127
      have r42 := r42.mono S127
      have h58 := S127 _ _ h58
      have r61 := r61.mono S127
      have r62 := r62.mono S127
      have h66 := S127 _ _ h66
      have hl67 := hl67.mono S127
      have hl83 := hl83.mono S127
      have hl84 := hl84.mono S127
      have S79 := S79.trans S127
      obtain ⟨F133, O134, S135, h136⟩ := O128.frzE 0 rfl z121
      have f_tree := f_tree.mono S135
      have h19 := h19.mono S135
      have h26 := h26.mono S135
      have h34 := h34.mono S135
      have r42 := r42.mono S135
      have h58 := S135 _ _ h58
      have r61 := r61.mono S135
      have r62 := r62.mono S135
      have h66 := S135 _ _ h66
      have hl67 := hl67.mono S135
      have hl83 := hl83.mono S135
      have hl84 := hl84.mono S135
      have S79 := S79.trans S135
      have hl129 := hl129.mono S135
      have h137 := R.lst (a := Int) h136 hl129
      obtain ⟨p138, w139, e140, h141, hl142⟩ := R.lst_ h137
      cases e140
      refine ⟨_, acc125, rfl, (by rw [← RL.ints hl142]; exact (SqLF O134.s h141)), _, rfl, _, _, (R.mono (R.jst R.int) O134.s), (R.mono r42 O134.s), _, rfl, ?_⟩
      refine iteD (fun q143 => ?_) (fun q143 => ?_)
      · have hk := wp_if hk q143
        refine ⟨_, rfl, ?_⟩
        exact hk _ _  O134.g  _ _ z49 (O134.cf _ (List.mem_of_getElem? (i := 1) rfl)) (O134.at 1 rfl) hl83
      · have hk := wp_el hk q143
        refine ⟨_, rfl, _, rfl, _, rfl, _, rfl, (by show 1 ≤ sizeLine; decide), fun p145 hp146 => ?_⟩
        have hl152 : RL (a := Int) F133 ([V.int y68]) ([y68]) := RL.cons R.int RL.nil
        obtain ⟨F147, O148, S149, h150⟩ := O134.putE hp146 (.lst ([V.int y68]))
        have f_tree := f_tree.mono S149
        have h19 := h19.mono S149
        have h26 := h26.mono S149
        have h34 := h34.mono S149
        have r42 := r42.mono S149
        have h58 := S149 _ _ h58
        have r61 := r61.mono S149
        have r62 := r62.mono S149
        have h66 := S149 _ _ h66
        have hl67 := hl67.mono S149
        have hl83 := hl83.mono S149
        have hl84 := hl84.mono S149
        have S79 := S79.trans S149
        have h137 := h137.mono S149
        have h141 := S149 _ _ h141
        have hl142 := hl142.mono S149
        have hl152 := hl152.mono S149
        have h151 := R.lst (a := Int) h150 hl152
        obtain ⟨p153, w154, e155, h156, hl157⟩ := R.lst_ h151
        cases e155
        obtain ⟨c158, hk⟩ := wp_chk hk
        refine ⟨_, _, _, _, rfl, rfl, (O148.at 1 rfl), (O148.s _ _ h156), (by rw [hl83.len, hl157.len]; exact le_line c158), fun p159 hp160 => ?_⟩
        have hl166 : RL (a := Int) F147 (w81 ++ w154) (st80.1 ++ ([y68])) := RL.app hl83 hl157
        obtain ⟨F161, O162, S163, h164⟩ := O148.putE hp160 (.lst (w81 ++ w154))
        have f_tree := f_tree.mono S163
        have h19 := h19.mono S163
        have h26 := h26.mono S163
        have h34 := h34.mono S163
        have r42 := r42.mono S163
        have h58 := S163 _ _ h58
        have r61 := r61.mono S163
        have r62 := r62.mono S163
        have h66 := S163 _ _ h66
        have hl67 := hl67.mono S163
        have hl83 := hl83.mono S163
        have hl84 := hl84.mono S163
        have S79 := S79.trans S163
        have h137 := h137.mono S163
        have h141 := S163 _ _ h141
        have hl142 := hl142.mono S163
        have h151 := h151.mono S163
        have h156 := S163 _ _ h156
        have hl157 := hl157.mono S163
        have hl166 := hl166.mono S163
        have h165 := R.lst (a := Int) h164 hl166
        have hi167 : ∀ b ∈ ([p51] : List Addr), ∃ o, (b, o) ∈ ([(p51, .lst w82), (p45, .lst w81)] : List (Addr × HO)) := (inA_cons 0 rfl inA_nil)
        have S168 := O162.lendS hi167
        have h169 := R.lst (a := Int) ((lendF_at (by simp)).trans (O162.at 0 rfl) : lendF [p51] F161 _ p51 = some (.lst w82)) (hl84.mono S168)
        refine ⟨_, rfl, _, _, _, _, _, _, _, _, _, rfl, (O162.lendP hi167), (f_tree.mono S168), (h19.mono S168), (h165.mono S168), h169, wp_call hk (fun r170 er171 hk F172 H173 g174 v175 r176 => ?_) (fun n hn C H1 hC kp => hn C H1 hC (O162.kp0 kp))⟩
        obtain ⟨O177, S179, hT180, hN181⟩ := O162.unlend hi167 g174
        obtain ⟨F178, hFb_⟩ : ∃ z_, z_ = backF [p51] F172 := ⟨_, rfl⟩
        rw [← hFb_] at O177 S179 hT180 hN181
        have r176 := R.oi_mv (F' := F178) r176
        have f_tree := f_tree.mono S179
        have h19 := h19.mono S179
        have h26 := h26.mono S179
        have h34 := h34.mono S179
        have r42 := r42.mono S179
        have h58 := S179 _ _ h58
        have r61 := r61.mono S179
        have r62 := r62.mono S179
        have h66 := S179 _ _ h66
        have hl67 := hl67.mono S179
        have hl83 := hl83.mono S179
        have hl84 := hl84.mono S179
        have S79 := S79.trans S179
        have h137 := h137.mono S179
        have h141 := S179 _ _ h141
        have hl142 := hl142.mono S179
        have h151 := h151.mono S179
        have h156 := S179 _ _ h156
        have hl157 := hl157.mono S179
        have h165 := h165.mono S179
        refine ⟨_, rfl, _, _, (R.mono r176 O177.s), (R.mono r42 O177.s), _, rfl, ?_⟩
        refine iteD (fun q182 => ?_) (fun q182 => ?_)
        · have hk := wp_if hk q182
          obtain ⟨c183, hk⟩ := wp_appL hk
          refine ⟨_, rfl, (.inl ⟨rfl, _, SqL.of (O177.at 1 rfl)⟩), _, rfl, _, _, _, rfl, rfl, (O177.at 1 rfl), (by rw [hl83.len]; exact c183), ?_⟩
          have O185 := O177.set 1 (.lst (w81 ++ [V.int y68])) rfl
          have hl186 : RL (a := Int) F178 (w81 ++ [V.int y68]) (st80.1 ++ [y68]) := RL.snoc hl83 R.int
          exact ⟨F178, ((st80.1 ++ [y68]), st80.2), (w81 ++ [V.int y68]), w82, some (V.int y68), rfl, S79, O185, hl186, hl84, hk⟩
        · have hk := wp_el hk q182
          obtain ⟨c187, hk⟩ := wp_appL hk
          refine ⟨_, rfl, (.inl ⟨rfl, _, SqL.of (O177.at 0 rfl)⟩), _, rfl, _, _, _, rfl, rfl, (O177.at 0 rfl), (by rw [hl84.len]; exact c187), ?_⟩
          have O189 := O177.set 0 (.lst (w82 ++ [V.int y68])) rfl
          have hl190 : RL (a := Int) F178 (w82 ++ [V.int y68]) (st80.2 ++ [y68]) := RL.snoc hl84 R.int
          exact ⟨F178, (st80.1, (st80.2 ++ [y68])), w81, (w82 ++ [V.int y68]), some (V.int y68), rfl, S79, O189, hl83, hl190, hk⟩
    rintro sg191 H192 ⟨F201, st194, w196, w197, t200, rfl, S193, O202, hl198, hl199, hL195⟩
    rw [rangeL_end0] at hL195
    have hk := hLd73 _ hL195
    have f_tree := f_tree.mono S193
    have h19 := h19.mono S193
    have h26 := h26.mono S193
    have h34 := h34.mono S193
    have r42 := r42.mono S193
    have h58 := S193 _ _ h58
    have r61 := r61.mono S193
    have r62 := r62.mono S193
    have h66 := S193 _ _ h66
    have hl67 := hl67.mono S193
    refine ⟨_, rfl, ?_⟩
    exact hk _ _  O202.g  _ _ z49 (O202.cf _ (List.mem_of_getElem? (i := 1) rfl)) (O202.at 1 rfl) hl198
abbrev s_greatest_piece : Stmt := top 20
theorem sc_greatest_piece : FnScope ["tree", "order", "held", "barred", "sums", "wanted", "place", "above", "so", "want"] ["tree", "order", "held", "barred"] (defScope s_greatest_piece) := ⟨rfl, rfl, rfl, by decide +kernel, rfl, by decide +kernel, by decide +kernel⟩
def m_greatest_piece (x_tree : ((List Int) × (List (T3 Int Int Int)))) (x_order : (List (Int × (Option Int)))) (x_held : (List Int)) (x_barred : (List Int)) : M ((Option Int)) :=
loopM (fun (y31 : (Int × (Option Int))) (st42 : (List (Int × Bool)) × (List (Int × Int))) =>
if ((dGet st42.1 y31.1).getD false) = true then (
if y31.1 ∈ x_barred then (
if (Option.isNone y31.2) = true then (
.ok (.rt (none : (Option Int))))
else (
opt y31.2 >>= fun y76 =>
.ok (.rt (none : (Option Int)))))
else (
opt (atI x_tree.1 y31.1) >>= fun y91 =>
if (Option.isNone y31.2) = true then (
.ok (.rt (some (((dGet st42.2 y31.1).getD (0 : Int)) + y91))))
else (
opt y31.2 >>= fun y97 =>
putD st42.1 y97 true >>= fun z101 =>
putD st42.2 y97 (((dGet st42.2 y97).getD (0 : Int)) + (((dGet st42.2 y31.1).getD (0 : Int)) + y91)) >>= fun z108 =>
.ok (.nx (z101, z108)))))
else (
if y31.1 ∈ x_barred then (
if (Option.isNone y31.2) = true then (
.ok (.rt (none : (Option Int))))
else (
opt y31.2 >>= fun y123 =>
if y31.1 ∈ x_held then (
.ok (.rt (none : (Option Int))))
else (
if y31.1 ∈ x_held then (
putD st42.1 y123 true >>= fun z129 =>
bad)
else (
.ok (.nx (st42.1, st42.2))))))
else (
opt (atI x_tree.1 y31.1) >>= fun y147 =>
if (Option.isNone y31.2) = true then (
.ok (.rt (some (((dGet st42.2 y31.1).getD (0 : Int)) + y147))))
else (
opt y31.2 >>= fun y153 =>
if y31.1 ∈ x_held then (
putD st42.1 y153 true >>= fun z158 =>
putD st42.2 y153 (((dGet st42.2 y153).getD (0 : Int)) + (((dGet st42.2 y31.1).getD (0 : Int)) + y147)) >>= fun z165 =>
.ok (.nx (z158, z165)))
else (
putD st42.2 y153 (((dGet st42.2 y153).getD (0 : Int)) + (if (((dGet st42.2 y31.1).getD (0 : Int)) + y147) > (0 : Int) then (((dGet st42.2 y31.1).getD (0 : Int)) + y147) else (0 : Int))) >>= fun z172 =>
.ok (.nx (st42.1, z172))))))) (x_order.reverse) (([] : (List (Int × Bool))), ([] : (List (Int × Int)))) >>= fun f190 => match f190 with
| .rt z_ => .ok z_
| .nx st178 =>
.ok (none : (Option Int))
def sp_greatest_piece (mg : Str → Option Value) : Sp := fun vs H Q E => ∃ (F : Hp) (v_tree : V) (x_tree : ((List Int) × (List (T3 Int Int Int)))) (v_order : V) (x_order : (List (Int × (Option Int)))) (v_held : V) (x_held : (List Int)) (v_barred : V) (x_barred : (List Int)), vs = [v_tree, v_order, v_held, v_barred] ∧ Pre F [] H ∧ R (a := ((List Int) × (List (T3 Int Int Int)))) F v_tree x_tree ∧ R (a := (List (Int × (Option Int)))) F v_order x_order ∧ R (a := (List Int)) F v_held x_held ∧ R (a := (List Int)) F v_barred x_barred ∧
  wp (m_greatest_piece x_tree x_order x_held x_barred) (fun r => ∀ (F' H' : Hp), Gr [] F H F' H' → ∀ v : V, R (a := (Option Int)) F' v r → Q v H')
  (fun n => ∀ (C : Addr) (H' : Hp), mg (Str.ofString n) = some (.ref C) → Kp [] H H' → E (.ref C) none H')
set_option maxHeartbeats 20000000 in
theorem ok_greatest_piece (nb : Nb mg) (D : Df K mg "greatest_piece" "greatest_piece" s_greatest_piece ["tree", "order", "held", "barred"]) : Ca P w K mg base "greatest_piece" 1 ["tree", "order", "held", "barred"] (sp_greatest_piece mg) := by
  refine Ca.mk' D sc_greatest_piece (fun vs H Q E h => ?_) (fun q_ f_ cdv A outer s H vs Q E hr h => ?_)
  · obtain ⟨F, _, _, _, _, _, _, _, _, rfl, _⟩ := h
    rfl
  · obtain ⟨F, v_tree, x_tree, v_order, x_order, v_held, x_held, v_barred, x_barred, rfl, P0, f_tree, f_order, f_held, f_barred, hk⟩ := h
    have nd := sc_greatest_piece.nd
    have hu64 := hr.units
    have hu128 := hu128_of hr
    have O := P0.start
    refine ⟨_, (pss_cons (ps_toN (ps_set (i := 4) nd rfl (Or.inl rfl) pe_dnewK))
  (pss_cons (ps_toN (ps_set (i := 5) nd rfl (Or.inl rfl) pe_dnewK))
  (pss_cons (ps_for (passes_of rfl) rfl (piListK (K := K) rfl (pe_revLK (K := K) rfl (pv 1))) (pg_tup rfl (pgs_cons (pg_name (i := 6) nd rfl (Or.inl rfl)) (pgs_cons (pg_name (i := 7) nd rfl (Or.inl rfl)) pgs_nil))) (pss_cons (ps_toN (ps_set (i := 8) nd rfl (Or.inl rfl) (pe_dget2 (u1_of hu64) (pv 4) (pv 6) pe_int ⟨rfl, rfl, rfl, rfl⟩)))
  (pss_cons (ps_toN (ps_set (i := 9) nd rfl (Or.inl rfl) (pe_or (pe_dget2 (u1_of hu64) (pv 5) (pv 6) pe_bl ⟨rfl, rfl, rfl, rfl⟩) (pe_one (pe_cmpR (op_inT Int hu64) (pv 6) (pv 2) rfl)))))
  (pss_cons (ps_if (pt_cmpR (op_inT Int hu64) (pv 6) (pv 3) rfl) (pss_one (ps_toN (ps_set (i := 8) nd rfl (Or.inl rfl) pe_non))) (pss_one (ps_if (pt_cmpR op_notN (pv 8) pe_non (nomark _)) (pss_one (ps_toN (ps_set (i := 8) nd rfl (Or.inl rfl) (pe_op op_add (pv 8) (pe_ix (ixListK (K := K) rfl) (pe_ix (ixTupK (K := K) rfl) (pv 0) pe_int (fun _ _ => rfl)) (pv 6) (fun _ _ => rfl)))))) pss_nil)))
  (pss_cons (ps_if (pt_cmpR op_isN (pv 7) pe_non (nomark _)) (pss_one (ps_ret (pv 8))) pss_nil)
  (pss_cons (ps_if (PW.pt (pw_and (pt_cmpR op_isN (pv 8) pe_non (nomark _)) (pw_and1 (pt_val (pv 9))))) (pss_one (ps_ret pe_non)) pss_nil)
  (pss_one (ps_if (pt_val (pv 9)) (pss_cons (ps_dput (u1_of hu64) (pv 5) (pv 7) pe_bl rfl)
  (pss_one (ps_dput (u1_of hu64) (pv 4) (pv 7) (pe_op op_add (pe_dget2 (u1_of hu64) (pv 4) (pv 7) pe_int ⟨rfl, rfl, rfl, rfl⟩) (pv 8)) rfl))) (pss_one (ps_if (pt_cmpR op_notN (pv 8) pe_non (nomark _)) (pss_one (ps_dput (u1_of hu64) (pv 4) (pv 7) (pe_op op_add (pe_dget2 (u1_of hu64) (pv 4) (pv 7) pe_int ⟨rfl, rfl, rfl, rfl⟩) (pe_callB (call_max2 rfl) (by rfl) nb.b_max (by decide +kernel) (pa_cons pe_int (pa_cons (pv 8) pa_nil)))) rfl)) pss_nil))))))))))
  (pss_one (ps_ret pe_non))))), ?_⟩
    refine fun p2 hp3 => ?_
    have hl5 : RD (κ := Int) (β := Int) F [] ([] : (List (Int × Int))) := RD.nil
    have z6 := O.was hp3
    have O4 := O.new (o := .dK []) hp3
    refine ⟨[some v_tree, some v_order, some v_held, some v_barred, some (V.ref p2), none, none, none, none, none], rfl, fun p8 hp9 => ?_⟩
    have hl11 : RD (κ := Int) (β := Bool) F [] ([] : (List (Int × Bool))) := RD.nil
    have z12 := O4.was hp9
    have O10 := O4.new (o := .dK []) hp9
    obtain ⟨p13, w14, e15, h16, hl17⟩ := R.lst_ f_order
    cases e15
    refine ⟨[some v_tree, some (V.ref p13), some v_held, some v_barred, some (V.ref p2), some (V.ref p8), none, none, none, none], rfl, _, rfl, _, _, rfl, (SqLF O10.s h16), fun p18 hp19 => ?_⟩
    have hl25 : RL (a := (Int × (Option Int))) F w14.reverse (x_order.reverse) := RL.rev hl17
    obtain ⟨F20, O21, S22, h23⟩ := O10.putE hp19 (.lst w14.reverse)
    have f_tree := f_tree.mono S22
    have f_order := f_order.mono S22
    have f_held := f_held.mono S22
    have f_barred := f_barred.mono S22
    have hl5 := hl5.mono S22
    have hl11 := hl11.mono S22
    have h16 := S22 _ _ h16
    have hl17 := hl17.mono S22
    have hl25 := hl25.mono S22
    have h24 := R.lst (a := (Int × (Option Int))) h23 hl25
    obtain ⟨p26, w27, e28, h29, hl30⟩ := R.lst_ h24
    cases e28
    obtain ⟨L32, hL33, hLs34, hLd35⟩ := loopM_L hk
    refine ⟨_, rfl, ⟨_, (SqLF O21.s h29)⟩, ?_⟩
    refine for_list (K := K) (xs := w27) (fun i σ H_ => ∃ (F_ : Hp) (st : (List (Int × Bool)) × (List (Int × Int))) (w_0 : (List (Key × V))) (w_1 : (List (Key × V))) (t_0 : Option V) (t_1 : Option V) (t_2 : Option V) (t_3 : Option V), σ = [some v_tree, some (V.ref p13), some v_held, some v_barred, some (V.ref p2), some (V.ref p8), t_0, t_1, t_2, t_3] ∧ Same F20 F_ ∧ Ow _ F_ [(p8, .dK w_0), (p2, .dK w_1)] H_ ∧ RD (κ := Int) (β := Bool) F_ w_0 st.1 ∧ RD (κ := Int) (β := Int) F_ w_1 st.2 ∧ L32 (List.drop i (x_order.reverse)) st) ⟨F20, (([] : (List (Int × Bool))), ([] : (List (Int × Int)))), [], [], none, none, none, none, rfl, Same.refl _, O21, hl11, hl5, hL33⟩ (fun i_ σ_ H_ _ hp_ => ?_) ?_ ?_
    · obtain ⟨_, _, _, _, _, _, _, _, _, hS_, hO_, _⟩ := hp_
      exact SqLF hO_.s (hS_ _ _ h29)
    · rintro i36 x37 sg38 H39 hi40 ⟨F51, st42, w43, w44, t47, t48, t49, t50, rfl, S41, O52, hl45, hl46, hL33⟩
      have f_tree := f_tree.mono S41
      have f_order := f_order.mono S41
      have f_held := f_held.mono S41
      have f_barred := f_barred.mono S41
      have h16 := S41 _ _ h16
      have hl17 := hl17.mono S41
      have h24 := h24.mono S41
      have h29 := S41 _ _ h29
      have hl30 := hl30.mono S41
      obtain ⟨y31, e53, r54⟩ := RL.got hl30 hi40
      rw [drop_at e53] at hL33
      have hk := hLs34 _ _ _ hL33
      obtain ⟨p55, v58, v59, e56, h57, r60, r61⟩ := R.t2_ r54
      cases e56
      obtain rfl := R.int_ r60
      obtain ⟨v62, hv63, r64⟩ := dgetD_any hl46 y31.1 R.int
      refine ⟨_, _, rfl, (SqTF O52.s h57), rfl, _, _, rfl, _, _, rfl, rfl, _, rfl, _, rfl, (.inl ⟨_, (.inl (O52.at 1 rfl))⟩), _, rfl, _, (dgo_I (.inl (O52.at 1 rfl))), ?_⟩
      rw [hv63]
      obtain rfl := R.int_ r64
      obtain ⟨v65, hv66, r67⟩ := dgetD_any hl45 y31.1 R.bl
      refine ⟨[some v_tree, some (V.ref p13), some v_held, some v_barred, some (V.ref p2), some (V.ref p8), some (V.int y31.1), some v59, some (V.int ((dGet st42.2 y31.1).getD (0 : Int))), t50], rfl, _, rfl, _, rfl, (.inl ⟨_, (.inl (O52.at 0 rfl))⟩), _, rfl, _, (dgo_I (.inl (O52.at 0 rfl))), ?_⟩
      rw [hv66]
      obtain rfl := R.bl_ r67
      refine ⟨_, rfl, ?_⟩
      refine iteB (fun q68 => ?_) (fun q68 => ?_)
      · have hk := wp_if hk q68
        obtain ⟨p69, w70, e71, h72, hl73⟩ := R.lst_ f_barred
        cases e71
        refine ⟨[some v_tree, some (V.ref p13), some v_held, some (V.ref p69), some (V.ref p2), some (V.ref p8), some (V.int y31.1), some v59, some (V.int ((dGet st42.2 y31.1).getD (0 : Int))), some (V.bl true)], rfl, _, rfl, _, rfl, _, _, _, _, R.int, rfl, (.inl (O52.s _ _ h72)), (RL.mono (hl73) O52.s), _, rfl, ?_⟩
        refine iteD (fun q74 => ?_) (fun q74 => ?_)
        · have hk := wp_if hk q74
          refine ⟨[some v_tree, some (V.ref p13), some v_held, some (V.ref p69), some (V.ref p2), some (V.ref p8), some (V.int y31.1), some v59, some V.non, some (V.bl true)], rfl, _, rfl, rfl, _, rfl, ?_⟩
          rw [isN_opt (F := F51) (r61)]
          refine iteB (fun q75 => ?_) (fun q75 => ?_)
          · have hk := wp_if hk q75
            refine ⟨_, rfl, ?_⟩
            exact hk _ _  O52.g  _ R.non
          · have hk := wp_el hk q75
            obtain ⟨y76, e77, hk⟩ := wp_opt hk
            have r78 : R (a := Int) F51 v59 y76 := R.jst_ (by rw [← e77]; exact r61)
            obtain rfl := R.int_ r78
            refine ⟨_, rfl, rfl, _, rfl, ?_⟩
            rw [dNon_t]
            refine iteT ?_
            refine ⟨_, rfl, _, rfl, ?_⟩
            refine iteT ?_
            exact hk _ _  O52.g  _ R.non
        · have hk := wp_el hk q74
          refine ⟨_, rfl, rfl, _, rfl, ?_⟩
          rw [show decide (V.int ((dGet st42.2 y31.1).getD (0 : Int)) = V.non) = false from decide_eq_false fun h_ => nomatch h_]
          refine iteT ?_
          obtain ⟨p79, v82, v83, e80, h81, r84, r85⟩ := R.t2_ f_tree
          cases e80
          obtain ⟨p86, w87, e88, h89, hl90⟩ := R.lst_ r84
          cases e88
          obtain ⟨y91, e92, hk⟩ := wp_opt hk
          obtain ⟨w93, e94, r95⟩ := hl90.atI e92
          obtain rfl := R.int_ r95
          refine ⟨_, rfl, _, rfl, _, _, _, _, rfl, rfl, (SqTF O52.s h81), rfl, _, rfl, _, _, _, _, rfl, rfl, (SqLF O52.s h89), e94, _, _, rfl, rfl, [some (V.ref p79), some (V.ref p13), some v_held, some (V.ref p69), some (V.ref p2), some (V.ref p8), some (V.int y31.1), some v59, some (V.int (((dGet st42.2 y31.1).getD (0 : Int)) + y91)), some (V.bl true)], rfl, _, rfl, rfl, _, rfl, ?_⟩
          rw [isN_opt (F := F51) (r61)]
          refine iteB (fun q96 => ?_) (fun q96 => ?_)
          · have hk := wp_if hk q96
            refine ⟨_, rfl, ?_⟩
            exact hk _ _  O52.g  _ (R.jst R.int)
          · have hk := wp_el hk q96
            obtain ⟨y97, e98, hk⟩ := wp_opt hk
            have r99 : R (a := Int) F51 v59 y97 := R.jst_ (by rw [← e98]; exact r61)
            obtain rfl := R.int_ r99
            refine ⟨_, rfl, rfl, _, rfl, ?_⟩
            rw [show decide (V.int (((dGet st42.2 y31.1).getD (0 : Int)) + y91) = V.non) = false from decide_eq_false fun h_ => nomatch h_]
            refine iteF ?_
            refine iteF ?_
            refine ⟨_, rfl, _, rfl, ?_⟩
            refine iteT ?_
            obtain ⟨c100, hk⟩ := wp_putD hk
            refine ⟨_, rfl, _, rfl, _, _, rfl, (dput_I (v := (V.bl true)) (O52.at 0 rfl) (by rw [RD.len hl45]; exact c100)), ?_⟩
            have O102 := O52.set 0 (.dK (putK w43 (DK.kk y97) (V.bl true))) rfl
            have hl103 : RD (κ := Int) (β := Bool) F51 (putK w43 (DK.kk y97) (V.bl true)) (dPut st42.1 y97 true) := RD.put hl45 y97 R.bl
            obtain ⟨v104, hv105, r106⟩ := dgetD_any hl46 y97 R.int
            refine ⟨_, rfl, _, rfl, (.inl ⟨_, (.inl (O102.at 1 rfl))⟩), _, rfl, _, (dgo_I (.inl (O102.at 1 rfl))), ?_⟩
            rw [hv105]
            obtain rfl := R.int_ r106
            obtain ⟨c107, hk⟩ := wp_putD hk
            refine ⟨_, rfl, _, _, rfl, rfl, _, rfl, _, rfl, _, _, rfl, (dput_I (v := (V.int (((dGet st42.2 y97).getD (0 : Int)) + (((dGet st42.2 y31.1).getD (0 : Int)) + y91)))) (O102.at 1 rfl) (by rw [RD.len hl46]; exact c107)), ?_⟩
            have O109 := O102.set 1 (.dK (putK w44 (DK.kk y97) (V.int (((dGet st42.2 y97).getD (0 : Int)) + (((dGet st42.2 y31.1).getD (0 : Int)) + y91))))) rfl
            have hl110 : RD (κ := Int) (β := Int) F51 (putK w44 (DK.kk y97) (V.int (((dGet st42.2 y97).getD (0 : Int)) + (((dGet st42.2 y31.1).getD (0 : Int)) + y91)))) (dPut st42.2 y97 (((dGet st42.2 y97).getD (0 : Int)) + (((dGet st42.2 y31.1).getD (0 : Int)) + y91))) := RD.put hl46 y97 R.int
            exact ⟨F51, ((dPut st42.1 y97 true), (dPut st42.2 y97 (((dGet st42.2 y97).getD (0 : Int)) + (((dGet st42.2 y31.1).getD (0 : Int)) + y91)))), (putK w43 (DK.kk y97) (V.bl true)), (putK w44 (DK.kk y97) (V.int (((dGet st42.2 y97).getD (0 : Int)) + (((dGet st42.2 y31.1).getD (0 : Int)) + y91)))), some (V.int y31.1), some (V.int y97), some (V.int (((dGet st42.2 y31.1).getD (0 : Int)) + y91)), some (V.bl true), rfl, S41, O109, hl103, hl110, hk⟩
      · have hk := wp_el hk q68
        obtain ⟨p111, w112, e113, h114, hl115⟩ := R.lst_ f_held
        cases e113
        refine ⟨_, rfl, _, rfl, _, _, _, _, R.int, rfl, (.inl (O52.s _ _ h114)), (RL.mono (hl115) O52.s), ?_⟩
        rw [if_neg Bool.false_ne_true]
        rw [to_dec (p := y31.1 ∈ x_held) _ inferInstance]
        obtain ⟨p116, w117, e118, h119, hl120⟩ := R.lst_ f_barred
        cases e118
        refine ⟨[some v_tree, some (V.ref p13), some (V.ref p111), some (V.ref p116), some (V.ref p2), some (V.ref p8), some (V.int y31.1), some v59, some (V.int ((dGet st42.2 y31.1).getD (0 : Int))), some (V.bl (decide (y31.1 ∈ x_held)))], rfl, _, rfl, _, rfl, _, _, _, _, R.int, rfl, (.inl (O52.s _ _ h119)), (RL.mono (hl120) O52.s), _, rfl, ?_⟩
        refine iteD (fun q121 => ?_) (fun q121 => ?_)
        · have hk := wp_if hk q121
          refine ⟨[some v_tree, some (V.ref p13), some (V.ref p111), some (V.ref p116), some (V.ref p2), some (V.ref p8), some (V.int y31.1), some v59, some V.non, some (V.bl (decide (y31.1 ∈ x_held)))], rfl, _, rfl, rfl, _, rfl, ?_⟩
          rw [isN_opt (F := F51) (r61)]
          refine iteB (fun q122 => ?_) (fun q122 => ?_)
          · have hk := wp_if hk q122
            refine ⟨_, rfl, ?_⟩
            exact hk _ _  O52.g  _ R.non
          · have hk := wp_el hk q122
            obtain ⟨y123, e124, hk⟩ := wp_opt hk
            have r125 : R (a := Int) F51 v59 y123 := R.jst_ (by rw [← e124]; exact r61)
            obtain rfl := R.int_ r125
            refine ⟨_, rfl, rfl, _, rfl, ?_⟩
            rw [dNon_t]
            refine iteT ?_
            refine ⟨_, rfl, _, rfl, ?_⟩
            refine iteD (fun q126 => ?_) (fun q126 => ?_)
            · have hk := wp_if hk q126
              exact hk _ _  O52.g  _ R.non
            · have hk := wp_el hk q126
              refine ⟨_, rfl, _, rfl, ?_⟩
              refine iteD (fun q127 => ?_) (fun q127 => ?_)
              · have hk := wp_if hk q127
                obtain ⟨c128, hk⟩ := wp_putD hk
                refine ⟨_, rfl, _, rfl, _, _, rfl, (dput_I (v := (V.bl true)) (O52.at 0 rfl) (by rw [RD.len hl45]; exact c128)), ?_⟩
                have O130 := O52.set 0 (.dK (putK w43 (DK.kk y123) (V.bl true))) rfl
                have hl131 : RD (κ := Int) (β := Bool) F51 (putK w43 (DK.kk y123) (V.bl true)) (dPut st42.1 y123 true) := RD.put hl45 y123 R.bl
                obtain ⟨v132, hv133, r134⟩ := dgetD_any hl46 y123 R.int
                refine ⟨_, rfl, _, rfl, (.inl ⟨_, (.inl (O130.at 1 rfl))⟩), _, rfl, _, (dgo_I (.inl (O130.at 1 rfl))), ?_⟩
                rw [hv133]
                obtain rfl := R.int_ r134
                exact hk.elim
              · have hk := wp_el hk q127
                refine ⟨_, rfl, rfl, _, rfl, ?_⟩
                rw [dNon_t]
                refine iteF ?_
                exact ⟨F51, (st42.1, st42.2), w43, w44, some (V.int y31.1), some (V.int y123), some V.non, some (V.bl (decide (y31.1 ∈ x_held))), rfl, S41, O52, hl45, hl46, hk⟩
        · have hk := wp_el hk q121
          refine ⟨_, rfl, rfl, _, rfl, ?_⟩
          rw [show decide (V.int ((dGet st42.2 y31.1).getD (0 : Int)) = V.non) = false from decide_eq_false fun h_ => nomatch h_]
          refine iteT ?_
          obtain ⟨p135, v138, v139, e136, h137, r140, r141⟩ := R.t2_ f_tree
          cases e136
          obtain ⟨p142, w143, e144, h145, hl146⟩ := R.lst_ r140
          cases e144
          obtain ⟨y147, e148, hk⟩ := wp_opt hk
          obtain ⟨w149, e150, r151⟩ := hl146.atI e148
          obtain rfl := R.int_ r151
          refine ⟨_, rfl, _, rfl, _, _, _, _, rfl, rfl, (SqTF O52.s h137), rfl, _, rfl, _, _, _, _, rfl, rfl, (SqLF O52.s h145), e150, _, _, rfl, rfl, [some (V.ref p135), some (V.ref p13), some (V.ref p111), some (V.ref p116), some (V.ref p2), some (V.ref p8), some (V.int y31.1), some v59, some (V.int (((dGet st42.2 y31.1).getD (0 : Int)) + y147)), some (V.bl (decide (y31.1 ∈ x_held)))], rfl, _, rfl, rfl, _, rfl, ?_⟩
          rw [isN_opt (F := F51) (r61)]
          refine iteB (fun q152 => ?_) (fun q152 => ?_)
          · have hk := wp_if hk q152
            refine ⟨_, rfl, ?_⟩
            exact hk _ _  O52.g  _ (R.jst R.int)
          · have hk := wp_el hk q152
            obtain ⟨y153, e154, hk⟩ := wp_opt hk
            have r155 : R (a := Int) F51 v59 y153 := R.jst_ (by rw [← e154]; exact r61)
            obtain rfl := R.int_ r155
            refine ⟨_, rfl, rfl, _, rfl, ?_⟩
            rw [show decide (V.int (((dGet st42.2 y31.1).getD (0 : Int)) + y147) = V.non) = false from decide_eq_false fun h_ => nomatch h_]
            refine iteF ?_
            refine iteF ?_
            refine ⟨_, rfl, _, rfl, ?_⟩
            refine iteD (fun q156 => ?_) (fun q156 => ?_)
            · have hk := wp_if hk q156
              obtain ⟨c157, hk⟩ := wp_putD hk
              refine ⟨_, rfl, _, rfl, _, _, rfl, (dput_I (v := (V.bl true)) (O52.at 0 rfl) (by rw [RD.len hl45]; exact c157)), ?_⟩
              have O159 := O52.set 0 (.dK (putK w43 (DK.kk y153) (V.bl true))) rfl
              have hl160 : RD (κ := Int) (β := Bool) F51 (putK w43 (DK.kk y153) (V.bl true)) (dPut st42.1 y153 true) := RD.put hl45 y153 R.bl
              obtain ⟨v161, hv162, r163⟩ := dgetD_any hl46 y153 R.int
              refine ⟨_, rfl, _, rfl, (.inl ⟨_, (.inl (O159.at 1 rfl))⟩), _, rfl, _, (dgo_I (.inl (O159.at 1 rfl))), ?_⟩
              rw [hv162]
              obtain rfl := R.int_ r163
              obtain ⟨c164, hk⟩ := wp_putD hk
              refine ⟨_, rfl, _, _, rfl, rfl, _, rfl, _, rfl, _, _, rfl, (dput_I (v := (V.int (((dGet st42.2 y153).getD (0 : Int)) + (((dGet st42.2 y31.1).getD (0 : Int)) + y147)))) (O159.at 1 rfl) (by rw [RD.len hl46]; exact c164)), ?_⟩
              have O166 := O159.set 1 (.dK (putK w44 (DK.kk y153) (V.int (((dGet st42.2 y153).getD (0 : Int)) + (((dGet st42.2 y31.1).getD (0 : Int)) + y147))))) rfl
              have hl167 : RD (κ := Int) (β := Int) F51 (putK w44 (DK.kk y153) (V.int (((dGet st42.2 y153).getD (0 : Int)) + (((dGet st42.2 y31.1).getD (0 : Int)) + y147)))) (dPut st42.2 y153 (((dGet st42.2 y153).getD (0 : Int)) + (((dGet st42.2 y31.1).getD (0 : Int)) + y147))) := RD.put hl46 y153 R.int
              exact ⟨F51, ((dPut st42.1 y153 true), (dPut st42.2 y153 (((dGet st42.2 y153).getD (0 : Int)) + (((dGet st42.2 y31.1).getD (0 : Int)) + y147)))), (putK w43 (DK.kk y153) (V.bl true)), (putK w44 (DK.kk y153) (V.int (((dGet st42.2 y153).getD (0 : Int)) + (((dGet st42.2 y31.1).getD (0 : Int)) + y147)))), some (V.int y31.1), some (V.int y153), some (V.int (((dGet st42.2 y31.1).getD (0 : Int)) + y147)), some (V.bl (decide (y31.1 ∈ x_held))), rfl, S41, O166, hl160, hl167, hk⟩
            · have hk := wp_el hk q156
              refine ⟨_, rfl, rfl, _, rfl, ?_⟩
              rw [show decide (V.int (((dGet st42.2 y31.1).getD (0 : Int)) + y147) = V.non) = false from decide_eq_false fun h_ => nomatch h_]
              refine iteT ?_
              obtain ⟨v168, hv169, r170⟩ := dgetD_any hl46 y153 R.int
              refine ⟨_, rfl, _, rfl, (.inl ⟨_, (.inl (O52.at 1 rfl))⟩), _, rfl, _, (dgo_I (.inl (O52.at 1 rfl))), ?_⟩
              rw [hv169]
              obtain rfl := R.int_ r170
              obtain ⟨c171, hk⟩ := wp_putD hk
              refine ⟨_, rfl, _, _, rfl, _, _, rfl, rfl, _, rfl, _, rfl, _, _, rfl, (dput_I (v := (V.int (((dGet st42.2 y153).getD (0 : Int)) + (if (((dGet st42.2 y31.1).getD (0 : Int)) + y147) > (0 : Int) then (((dGet st42.2 y31.1).getD (0 : Int)) + y147) else (0 : Int))))) (O52.at 1 rfl) (by rw [RD.len hl46]; exact c171)), ?_⟩
              have O173 := O52.set 1 (.dK (putK w44 (DK.kk y153) (V.int (((dGet st42.2 y153).getD (0 : Int)) + (if (((dGet st42.2 y31.1).getD (0 : Int)) + y147) > (0 : Int) then (((dGet st42.2 y31.1).getD (0 : Int)) + y147) else (0 : Int)))))) rfl
              have hl174 : RD (κ := Int) (β := Int) F51 (putK w44 (DK.kk y153) (V.int (((dGet st42.2 y153).getD (0 : Int)) + (if (((dGet st42.2 y31.1).getD (0 : Int)) + y147) > (0 : Int) then (((dGet st42.2 y31.1).getD (0 : Int)) + y147) else (0 : Int))))) (dPut st42.2 y153 (((dGet st42.2 y153).getD (0 : Int)) + (if (((dGet st42.2 y31.1).getD (0 : Int)) + y147) > (0 : Int) then (((dGet st42.2 y31.1).getD (0 : Int)) + y147) else (0 : Int)))) := RD.put hl46 y153 R.int
              exact ⟨F51, (st42.1, (dPut st42.2 y153 (((dGet st42.2 y153).getD (0 : Int)) + (if (((dGet st42.2 y31.1).getD (0 : Int)) + y147) > (0 : Int) then (((dGet st42.2 y31.1).getD (0 : Int)) + y147) else (0 : Int))))), w43, (putK w44 (DK.kk y153) (V.int (((dGet st42.2 y153).getD (0 : Int)) + (if (((dGet st42.2 y31.1).getD (0 : Int)) + y147) > (0 : Int) then (((dGet st42.2 y31.1).getD (0 : Int)) + y147) else (0 : Int))))), some (V.int y31.1), some (V.int y153), some (V.int (((dGet st42.2 y31.1).getD (0 : Int)) + y147)), some (V.bl (decide (y31.1 ∈ x_held))), rfl, S41, O173, hl45, hl174, hk⟩
    rintro sg175 H176 ⟨F188, st178, w180, w181, t184, t185, t186, t187, rfl, S177, O189, hl182, hl183, hL179⟩
    rw [drop_end hl30.len] at hL179
    have hk := hLd35 _ hL179
    have f_tree := f_tree.mono S177
    have f_order := f_order.mono S177
    have f_held := f_held.mono S177
    have f_barred := f_barred.mono S177
    have h16 := S177 _ _ h16
    have hl17 := hl17.mono S177
    have h24 := h24.mono S177
    have h29 := S177 _ _ h29
    have hl30 := hl30.mono S177
    exact hk _ _  O189.g  _ R.non
abbrev s_hangs : Stmt := top 22
theorem sc_hangs : FnScope ["order", "held", "place", "above"] ["order", "held"] (defScope s_hangs) := ⟨rfl, rfl, rfl, by decide +kernel, rfl, by decide +kernel, by decide +kernel⟩
def m_hangs (x_order : (List (Int × (Option Int)))) (x_held : (List Int)) : M (Bool) :=
compS (fun (y6 : (Int × (Option Int))) (st23 : Unit) =>
if y6.1 ∉ x_held then (
.ok (some true, ()))
else (
if (Option.isNone y6.2) = true then (
.ok (some true, ()))
else (
opt y6.2 >>= fun y48 =>
.ok (some (decide (y48 ∈ x_held)), ())))) x_order () >>= fun q67 =>
.ok (List.all q67.1 id)
def sp_hangs (mg : Str → Option Value) : Sp := fun vs H Q E => ∃ (F : Hp) (v_order : V) (x_order : (List (Int × (Option Int)))) (v_held : V) (x_held : (List Int)), vs = [v_order, v_held] ∧ Pre F [] H ∧ R (a := (List (Int × (Option Int)))) F v_order x_order ∧ R (a := (List Int)) F v_held x_held ∧
  wp (m_hangs x_order x_held) (fun r => ∀ (F' H' : Hp), Gr [] F H F' H' → Q (V.bl r) H')
  (fun n => ∀ (C : Addr) (H' : Hp), mg (Str.ofString n) = some (.ref C) → Kp [] H H' → E (.ref C) none H')
set_option maxHeartbeats 20000000 in
theorem ok_hangs (nb : Nb mg) (D : Df K mg "hangs" "hangs" s_hangs ["order", "held"]) : Ca P w K mg base "hangs" 1 ["order", "held"] (sp_hangs mg) := by
  refine Ca.mk' D sc_hangs (fun vs H Q E h => ?_) (fun q_ f_ cdv A outer s H vs Q E hr h => ?_)
  · obtain ⟨F, _, _, _, _, rfl, _⟩ := h
    rfl
  · obtain ⟨F, v_order, x_order, v_held, x_held, rfl, P0, f_order, f_held, hk⟩ := h
    have nd := sc_hangs.nd
    have hu64 := hr.units
    have hu128 := hu128_of hr
    have O := P0.start
    refine ⟨_, (pss_one (ps_ret (pe_callB (cr_allK (K := K) rfl rfl) (by rfl) nb.b_all (by decide +kernel) (pa_cons (pe_lc (own := [("place", 2), ("above", 3)]) (g := gTup K 2 (gCons (gName 2) (gCons (gName 3) (gNil)))) (tt := _) rfl nd (piListK (K := K) rfl (pv 0)) (blkOk_by (own := [("place", 2), ("above", 3)]) (N := ["order", "held", "place", "above"]) (sc := defScope s_hangs) (by decide +kernel)) (fun _ _ _ _ _ => (pg_tup rfl (pgs_cons (pg_name (i := 2) nd rfl (Or.inl rfl)) (pgs_cons (pg_name (i := 3) nd rfl (Or.inl rfl)) pgs_nil)))) (fun _ _ _ _ _ => pts_nil) (fun _ _ _ _ _ => (pe_or (pe_cmpR (op_ninT Int hu64) (pv 2) (pv 1) rfl) (pe_or (pe_cmpR op_isN (pv 3) pe_non (nomark _)) (pe_one (pe_cmpR (op_inT Int hu64) (pv 3) (pv 1) rfl)))))) pa_nil)))), ?_⟩
    obtain ⟨p1, w2, e3, h4, hl5⟩ := R.lst_ f_order
    cases e3
    obtain ⟨c11, L7, hL8, hLs9, hLd10⟩ := compS_L hk
    refine ⟨_, rfl, _, rfl, ⟨_, (SqLF O.s h4)⟩, fun p12 hp13 => ?_⟩
    have z56 := O.was hp13
    refine lc_list (K := K) (xs := w2) (fun i H => ∃ (F_ : Hp) (st : Unit) (acc : List Bool) (wa : List V), Same F F_ ∧ Ow _ F_ [(p12, .lst wa)] H ∧ RL F_ wa acc ∧ wa.length ≤ i ∧ L7 (List.drop i x_order) acc st) ⟨F, (), [], [], Same.refl _, O.new hp13, RL.nil, Nat.zero_le _, hL8⟩ (fun i_ H_ _ hp_ => ?_) ?_ ?_
    · obtain ⟨_, _, _, _, hS_, hO_, _⟩ := hp_
      exact SqLF hO_.s (hS_ _ _ h4)
    · rintro i14 x15 H16 hi17 ⟨F22, st23, acc19, wa20, S24, O26, hl25, la21, hL8⟩
      have f_order := f_order.mono S24
      have f_held := f_held.mono S24
      have h4 := S24 _ _ h4
      have hl5 := hl5.mono S24
      obtain ⟨y6, e27, r28⟩ := RL.got hl5 hi17
      rw [drop_at e27] at hL8
      have hk := hLs9 _ _ _ _ hL8
      obtain ⟨p29, v32, v33, e30, h31, r34, r35⟩ := R.t2_ r28
      cases e30
      obtain rfl := R.int_ r34
      refine ⟨_, _, rfl, (SqTF O26.s h31), rfl, _, _, rfl, _, _, rfl, rfl, rfl, ?_⟩
      obtain ⟨p36, w37, e38, h39, hl40⟩ := R.lst_ f_held
      cases e38
      refine ⟨_, rfl, _, rfl, _, _, _, _, R.int, rfl, (.inl (O26.s _ _ h39)), (RL.mono (hl40) O26.s), ?_⟩
      rw [if_pos rfl]
      rw [to_dec (p := y6.1 ∉ x_held) _ inferInstance]
      refine ⟨_, rfl, ?_⟩
      refine iteD (fun q41 => ?_) (fun q41 => ?_)
      · have hk := wp_if hk q41
        refine ⟨_, (O26.at 0 rfl), (comp_len la21 hi17 hl5.len c11), ?_⟩
        exact ⟨F22, (), acc19 ++ [true], wa20 ++ [V.bl true], S24, O26.set 0 (.lst (wa20 ++ [V.bl true])) rfl, RL.snoc hl25 R.bl, by rw [List.length_append]; exact Nat.succ_le_succ la21, hk⟩
      · have hk := wp_el hk q41
        refine ⟨_, rfl, rfl, ?_⟩
        rw [isN_opt (F := F22) (r35)]
        refine ⟨_, rfl, ?_⟩
        refine iteB (fun q42 => ?_) (fun q42 => ?_)
        · have hk := wp_if hk q42
          refine ⟨_, (O26.at 0 rfl), (comp_len la21 hi17 hl5.len c11), ?_⟩
          exact ⟨F22, (), acc19 ++ [true], wa20 ++ [V.bl true], S24, O26.set 0 (.lst (wa20 ++ [V.bl true])) rfl, RL.snoc hl25 R.bl, by rw [List.length_append]; exact Nat.succ_le_succ la21, hk⟩
        · have hk := wp_el hk q42
          obtain ⟨p43, w44, e45, h46, hl47⟩ := R.lst_ f_held
          cases e45
          obtain ⟨y48, e49, hk⟩ := wp_opt hk
          have r50 : R (a := Int) F22 v33 y48 := R.jst_ (by rw [← e49]; exact r35)
          obtain rfl := R.int_ r50
          obtain ⟨p51, w52, e53, h54, hl55⟩ := R.lst_ f_held
          cases e53
          refine ⟨_, rfl, _, rfl, _, _, _, _, R.int, rfl, (.inl (O26.s _ _ h54)), (RL.mono (hl55) O26.s), ?_⟩
          rw [if_neg Bool.false_ne_true]
          rw [to_dec (p := y48 ∈ x_held) _ inferInstance]
          refine ⟨_, (O26.at 0 rfl), (comp_len la21 hi17 hl5.len c11), ?_⟩
          exact ⟨F22, (), acc19 ++ [(decide (y48 ∈ x_held))], wa20 ++ [V.bl (decide (y48 ∈ x_held))], S24, O26.set 0 (.lst (wa20 ++ [V.bl (decide (y48 ∈ x_held))])) rfl, RL.snoc hl25 R.bl, by rw [List.length_append]; exact Nat.succ_le_succ la21, hk⟩
    rintro H57 ⟨F58, st59, acc60, wa61, S62, O63, hl64, la65, hL66⟩
    rw [drop_end hl5.len] at hL66
    have hk := hLd10 _ _ hL66
    have f_order := f_order.mono S62
    have f_held := f_held.mono S62
    have h4 := S62 _ _ h4
    have hl5 := hl5.mono S62
    obtain ⟨F68, O69, S70, h71⟩ := O63.frzE 0 rfl z56
    have f_order := f_order.mono S70
    have f_held := f_held.mono S70
    have h4 := S70 _ _ h4
    have hl5 := hl5.mono S70
    have hl64 := hl64.mono S70
    have h72 := R.lst (a := Bool) h71 hl64
    obtain ⟨p73, w74, e75, h76, hl77⟩ := R.lst_ h72
    cases e75
    refine ⟨_, acc60, rfl, (by rw [← RL.bools hl77]; exact (SqLF O69.s h76)), ?_⟩
    exact hk _ _  O69.g 
abbrev s_best_piece : Stmt := top 21
theorem sc_best_piece : FnScope ["tree", "place", "order", "most", "held", "barred", "other", "one"] ["tree", "place"] (defScope s_best_piece) := ⟨rfl, rfl, rfl, by decide +kernel, rfl, by decide +kernel, by decide +kernel⟩
def m_best_piece (x_tree : ((List Int) × (List (T3 Int Int Int)))) (x_place : Int) : M ((List Int)) :=
m_need_place x_tree x_place >>= fun r1 =>
m_hung_from x_tree x_place >>= fun r7 =>
m_greatest_piece x_tree r7 ([] : List Int) ([] : List Int) >>= fun r42 =>
chk (okR (x_tree.1.length : Int)) >>= fun _ =>
loopM (fun (y74 : Int) (st86 : (List Int) × (List Int)) =>
if x_place < y74 then (
compS (fun (y95 : Int) (st112 : Unit) =>
opt (atI x_tree.1 y95) >>= fun y123 =>
.ok (some y123, ())) st86.1 () >>= fun q139 =>
if (some (List.sum q139.1)) = r42 then (
m_hangs r7 st86.1 >>= fun r154 =>
if r154 = true then (
.ok (.rt (sortT st86.1)))
else (
if y74 ≠ x_place then (
chk (st86.1.length + ([y74]).length < 16777216) >>= fun _ =>
m_greatest_piece x_tree r7 (st86.1 ++ ([y74])) st86.2 >>= fun r193 =>
if r193 = r42 then (
appL st86.1 y74 >>= fun _ =>
.ok (.nx ((st86.1 ++ [y74]), st86.2)))
else (
appL st86.2 y74 >>= fun _ =>
.ok (.nx (st86.1, (st86.2 ++ [y74])))))
else (
.ok (.nx (st86.1, st86.2)))))
else (
if y74 ≠ x_place then (
chk (st86.1.length + ([y74]).length < 16777216) >>= fun _ =>
m_greatest_piece x_tree r7 (st86.1 ++ ([y74])) st86.2 >>= fun r240 =>
if r240 = r42 then (
appL st86.1 y74 >>= fun _ =>
.ok (.nx ((st86.1 ++ [y74]), st86.2)))
else (
appL st86.2 y74 >>= fun _ =>
.ok (.nx (st86.1, (st86.2 ++ [y74])))))
else (
.ok (.nx (st86.1, st86.2)))))
else (
if y74 ≠ x_place then (
chk (st86.1.length + ([y74]).length < 16777216) >>= fun _ =>
m_greatest_piece x_tree r7 (st86.1 ++ ([y74])) st86.2 >>= fun r287 =>
if r287 = r42 then (
appL st86.1 y74 >>= fun _ =>
.ok (.nx ((st86.1 ++ [y74]), st86.2)))
else (
appL st86.2 y74 >>= fun _ =>
.ok (.nx (st86.1, (st86.2 ++ [y74])))))
else (
.ok (.nx (st86.1, st86.2))))) (rangeL 0 (x_tree.1.length : Int)) ([x_place], ([] : List Int)) >>= fun f320 => match f320 with
| .rt z_ => .ok z_
| .nx st311 =>
.ok (sortT st311.1)
def sp_best_piece (mg : Str → Option Value) : Sp := fun vs H Q E => ∃ (F : Hp) (v_tree : V) (x_tree : ((List Int) × (List (T3 Int Int Int)))) (x_place : Int), vs = [v_tree, V.int x_place] ∧ Pre F [] H ∧ R (a := ((List Int) × (List (T3 Int Int Int)))) F v_tree x_tree ∧
  wp (m_best_piece x_tree x_place) (fun r => ∀ (F' H' : Hp), Gr [] F H F' H' → ∀ (p : Addr) (w : (List V)), H p = none → F' p = none → H' p = some (.lst w) → RL (a := Int) F' w r → Q (.ref p) H')
  (fun n => ∀ (C : Addr) (H' : Hp), mg (Str.ofString n) = some (.ref C) → Kp [] H H' → E (.ref C) none H')
set_option maxHeartbeats 20000000 in
theorem ok_best_piece (nb : Nb mg) (C_greatest_piece : Ca P w K mg base "greatest_piece" 1 ["tree", "order", "held", "barred"] (sp_greatest_piece mg)) (C_hangs : Ca P w K mg base "hangs" 1 ["order", "held"] (sp_hangs mg)) (C_hung_from : Ca P w K mg base "hung_from" 3 ["tree", "seat"] (sp_hung_from mg)) (C_need_place : Ca P w K mg base "need_place" 1 ["tree", "place"] (sp_need_place mg)) (D : Df K mg "best_piece" "best_piece" s_best_piece ["tree", "place"]) : Ca P w K mg base "best_piece" 4 ["tree", "place"] (sp_best_piece mg) := by
  obtain ⟨fa_greatest_piece, fd_greatest_piece, G_greatest_piece, M_greatest_piece, K_greatest_piece, B_greatest_piece⟩ := C_greatest_piece.ex
  obtain ⟨fa_hangs, fd_hangs, G_hangs, M_hangs, K_hangs, B_hangs⟩ := C_hangs.ex
  obtain ⟨fa_hung_from, fd_hung_from, G_hung_from, M_hung_from, K_hung_from, B_hung_from⟩ := C_hung_from.ex
  obtain ⟨fa_need_place, fd_need_place, G_need_place, M_need_place, K_need_place, B_need_place⟩ := C_need_place.ex
  refine Ca.mk' D sc_best_piece (fun vs H Q E h => ?_) (fun q_ f_ cdv A outer s H vs Q E hr h => ?_)
  · obtain ⟨F, _, _, _, rfl, _⟩ := h
    rfl
  · obtain ⟨F, v_tree, x_tree, x_place, rfl, P0, f_tree, hk⟩ := h
    have nd := sc_best_piece.nd
    have hu64 := hr.units
    have hu128 := hu128_of hr
    have O := P0.start
    refine ⟨_, (pss_cons (ps_expr (pe_call G_need_place (hr.mono (by decide)) rfl M_need_place K_need_place B_need_place .nil (passes_call (takes_of rfl rfl rfl rfl) fun _ _ _ _ h => h) (pa_cons (pv 0) (pa_cons (pv 1) pa_nil))))
  (pss_cons (ps_toN (ps_set (i := 2) nd rfl (Or.inl rfl) (pe_call G_hung_from (hr.mono (by decide)) rfl M_hung_from K_hung_from B_hung_from .nil (passes_call (takes_of rfl rfl rfl rfl) fun _ _ _ _ h => h) (pa_cons (pv 0) (pa_cons (pv 1) pa_nil)))))
  (pss_cons (ps_toN (ps_set (i := 3) nd rfl (Or.inl rfl) (pe_call G_greatest_piece (hr.mono (by decide)) rfl M_greatest_piece K_greatest_piece B_greatest_piece .nil (passes_call (takes_of rfl rfl rfl rfl) fun _ _ _ _ h => h) (pa_cons (pv 0) (pa_cons (pv 2) (pa_cons (pe_lst pa_nil) (pa_cons (pe_lst pa_nil) pa_nil)))))))
  (pss_cons (ps_toN (ps_set (i := 4) nd rfl (Or.inl rfl) (pe_lst (pa_cons (pv 1) pa_nil))))
  (pss_cons (ps_toN (ps_set (i := 5) nd rfl (Or.inl rfl) (pe_lst pa_nil)))
  (pss_cons (ps_for (passes_of rfl) rfl (pi_range1 rfl nb.b_range (pa_cons (pe_callB call_lenT (by rfl) nb.b_len PySem.boot_len (pa_cons (pe_ix (ixTupK (K := K) rfl) (pv 0) pe_int (fun _ _ => rfl)) pa_nil)) pa_nil)) (pg_name (i := 6) nd rfl (Or.inl rfl)) (pss_cons (ps_if (PW.pt (pw_and (pt_cmpR op_gt (pv 6) (pv 1) (nomark _)) (pw_and (pt_cmpR (op_eqT (Option Int) hu64) (pe_callB (cr_sumK (K := K) rfl rfl) (by rfl) nb.b_sum (by decide +kernel) (pa_cons (pe_lc (own := [("one", 7)]) (g := gName 7) (tt := _) rfl nd (piListK (K := K) rfl (pv 4)) (blkOk_by (own := [("one", 7)]) (N := ["tree", "place", "order", "most", "held", "barred", "other", "one"]) (sc := defScope s_best_piece) (by decide +kernel)) (fun _ _ _ _ _ => (pg_name (i := 7) nd rfl (Or.inl rfl))) (fun _ _ _ _ _ => pts_nil) (fun _ _ _ _ _ => (pe_ix (ixListK (K := K) rfl) (pe_ix (ixTupK (K := K) rfl) (pv 0) pe_int (fun _ _ => rfl)) (pv 7) (fun _ _ => rfl)))) pa_nil)) (pv 3) (nomark _)) (pw_and1 (pt_val (pe_call G_hangs (hr.mono (by decide)) rfl M_hangs K_hangs B_hangs .nil (passes_call (takes_of rfl rfl rfl rfl) fun _ _ _ _ h => h) (pa_cons (pv 2) (pa_cons (pv 4) pa_nil)))))))) (pss_one (ps_ret (pe_callB (cr_sortedT Int hu128) (by rfl) nb.b_sorted (by decide +kernel) (pa_cons (pv 4) pa_nil)))) pss_nil)
  (pss_one (ps_if (pt_cmpR (op_neT Int hu64) (pv 6) (pv 1) (nomark _)) (pss_one (ps_if (pt_cmpR (op_eqT (Option Int) hu64) (pe_call G_greatest_piece (hr.mono (by decide)) rfl M_greatest_piece K_greatest_piece B_greatest_piece .nil (passes_call (takes_of rfl rfl rfl rfl) fun _ _ _ _ h => h) (pa_cons (pv 0) (pa_cons (pv 2) (pa_cons (pe_op op_cat (pv 4) (pe_lst (pa_cons (pv 6) pa_nil))) (pa_cons (pv 5) pa_nil))))) (pv 3) (nomark _)) (pss_one (ps_expr (bmK (K := K) rfl (pe_bm PySem.F.plainAttrs_list PySem.F.slot_list_append PySem.F.type_list_append mt_append (pv 4) (pa_cons (pv 6) pa_nil))))) (pss_one (ps_expr (bmK (K := K) rfl (pe_bm PySem.F.plainAttrs_list PySem.F.slot_list_append PySem.F.type_list_append mt_append (pv 5) (pa_cons (pv 6) pa_nil))))))) pss_nil))))
  (pss_one (ps_ret (pe_callB (cr_sortedT Int hu128) (by rfl) nb.b_sorted (by decide +kernel) (pa_cons (pv 4) pa_nil)))))))))), ?_⟩
    refine ⟨_, rfl, _, rfl, _, _, _, _, rfl, O.pre0, f_tree, wp_call hk (fun r1 er2 hk F3 H4 g5 => ?_) (fun n hn C H1 hC kp => hn C H1 hC (O.kp0 kp))⟩
    have O6 := O.call0 g5
    have S_ := g5.f
    have f_tree := f_tree.mono S_
    refine ⟨_, rfl, _, rfl, _, _, _, _, rfl, O6.pre0, f_tree, wp_call hk (fun r7 er8 hk F9 H10 g11 p12 w13 hn14 hf15 h16 hl17 => ?_) (fun n hn C H1 hC kp => hn C H1 hC (O6.kp0 kp))⟩
    have O18 := O6.call0 g11
    have S_ := g11.f
    have f_tree := f_tree.mono S_
    have O19 := O6.got O18 rfl hn14 hf15 h16
    have z20 := O6.was hn14
    obtain ⟨F21, O22, S23, h24⟩ := O19.frzE 0 rfl z20
    have f_tree := f_tree.mono S23
    have hl17 := hl17.mono S23
    have h25 := R.lst (a := (Int × (Option Int))) h24 hl17
    refine ⟨[some v_tree, some (V.int x_place), some (V.ref p12), none, none, none, none, none], rfl, _, rfl, _, rfl, (by show 0 ≤ sizeLine; decide), fun p26 hp27 => ?_⟩
    have hl33 : RL (a := Int) F21 ([]) ([] : List Int) := RL.nil
    obtain ⟨F28, O29, S30, h31⟩ := O22.putE hp27 (.lst ([]))
    have f_tree := f_tree.mono S30
    have h25 := h25.mono S30
    have hl33 := hl33.mono S30
    have h32 := R.lst (a := Int) h31 hl33
    refine ⟨(by show 0 ≤ sizeLine; decide), fun p34 hp35 => ?_⟩
    have hl41 : RL (a := Int) F28 ([]) ([] : List Int) := RL.nil
    obtain ⟨F36, O37, S38, h39⟩ := O29.putE hp35 (.lst ([]))
    have f_tree := f_tree.mono S38
    have h25 := h25.mono S38
    have h32 := h32.mono S38
    have hl41 := hl41.mono S38
    have h40 := R.lst (a := Int) h39 hl41
    refine ⟨_, _, _, _, _, _, _, _, _, rfl, O37.pre0, f_tree, h25, h32, h40, wp_call hk (fun r42 er43 hk F44 H45 g46 v47 r48 => ?_) (fun n hn C H1 hC kp => hn C H1 hC (O37.kp0 kp))⟩
    have O49 := O37.call0 g46
    have S_ := g46.f
    have f_tree := f_tree.mono S_
    have h25 := h25.mono S_
    have h32 := h32.mono S_
    have h40 := h40.mono S_
    refine ⟨[some v_tree, some (V.int x_place), some (V.ref p12), some v47, none, none, none, none], rfl, _, rfl, (by show 1 ≤ sizeLine; decide), fun p51 hp52 => ?_⟩
    have hl54 : RL (a := Int) F44 ([V.int x_place]) ([x_place]) := RL.cons R.int RL.nil
    have z55 := O49.was hp52
    have O53 := O49.new (o := .lst ([V.int x_place])) hp52
    refine ⟨[some v_tree, some (V.int x_place), some (V.ref p12), some v47, some (V.ref p51), none, none, none], rfl, (by show 0 ≤ sizeLine; decide), fun p57 hp58 => ?_⟩
    have hl60 : RL (a := Int) F44 ([]) ([] : List Int) := RL.nil
    have z61 := O53.was hp58
    have O59 := O53.new (o := .lst ([])) hp58
    obtain ⟨p62, v65, v66, e63, h64, r67, r68⟩ := R.t2_ f_tree
    cases e63
    obtain ⟨p69, w70, e71, h72, hl73⟩ := R.lst_ r67
    cases e71
    obtain ⟨c75, hk⟩ := wp_chk hk
    obtain ⟨L76, hL77, hLs78, hLd79⟩ := loopM_L hk
    refine ⟨[some (V.ref p62), some (V.int x_place), some (V.ref p12), some v47, some (V.ref p51), some (V.ref p57), none, none], rfl, _, rfl, _, _, _, _, rfl, rfl, (SqTF O59.s h64), rfl, _, _, _, rfl, (.inl (O59.s _ _ h72)), hl73.len, _, rfl, c75.lo, c75.hi, ?_⟩
    refine for_range (lo := 0) (n := ((x_tree.1.length : Int)).toNat) (fun i σ H_ => ∃ (F_ : Hp) (st : (List Int) × (List Int)) (w_0 : (List V)) (w_1 : (List V)) (t_0 : Option V), σ = [some (V.ref p62), some (V.int x_place), some (V.ref p12), some v47, some (V.ref p51), some (V.ref p57), t_0, none] ∧ Same F44 F_ ∧ Ow _ F_ [(p57, .lst w_1), (p51, .lst w_0)] H_ ∧ RL (a := Int) F_ w_0 st.1 ∧ RL (a := Int) F_ w_1 st.2 ∧ L76 (List.drop i (rangeL 0 (x_tree.1.length : Int))) st) ⟨F44, ([x_place], ([] : List Int)), [V.int x_place], [], none, rfl, Same.refl _, O59, hl54, hl60, hL77⟩ ?_ ?_
    · rintro i80 sg82 H83 hi84 ⟨F92, st86, w87, w88, t91, rfl, S85, O93, hl89, hl90, hL77⟩
      have f_tree := f_tree.mono S85
      have h25 := h25.mono S85
      have h32 := h32.mono S85
      have h40 := h40.mono S85
      have r48 := r48.mono S85
      have h64 := S85 _ _ h64
      have r67 := r67.mono S85
      have r68 := r68.mono S85
      have h72 := S85 _ _ h72
      have hl73 := hl73.mono S85
      rw [rangeL_get0 hi84] at hL77
      have hk := hLs78 _ _ _ hL77
      obtain ⟨y74, he_⟩ : ∃ z_, z_ = 0 + (i80 : Int) := ⟨_, rfl⟩
      try rw [← he_] at hk
      rw [← he_]
      refine ⟨_, rfl, _, rfl, _, _, rfl, rfl, _, rfl, ?_⟩
      refine iteD (fun q94 => ?_) (fun q94 => ?_)
      · have hk := wp_if hk q94
        obtain ⟨c100, L96, hL97, hLs98, hLd99⟩ := compS_L hk
        refine ⟨_, rfl, _, rfl, ⟨_, (SqL.of (O93.at 1 rfl))⟩, fun p101 hp102 => ?_⟩
        have z128 := O93.was hp102
        refine lc_list (K := K) (xs := w87) (fun i H => ∃ (F_ : Hp) (st : Unit) (acc : List Int) (wa : List V), Same F92 F_ ∧ Ow _ F_ [(p101, .lst wa), (p57, .lst w88), (p51, .lst w87)] H ∧ RL F_ wa acc ∧ wa.length ≤ i ∧ L96 (List.drop i st86.1) acc st) ⟨F92, (), [], [], Same.refl _, O93.new hp102, RL.nil, Nat.zero_le _, hL97⟩ (fun i_ H_ _ hp_ => ?_) ?_ ?_
        · obtain ⟨_, _, _, _, hS_, hO_, _⟩ := hp_
          exact SqL.of (hO_.at 2 rfl)
        · rintro i103 x104 H105 hi106 ⟨F111, st112, acc108, wa109, S113, O115, hl114, la110, hL97⟩
          have f_tree := f_tree.mono S113
          have h25 := h25.mono S113
          have h32 := h32.mono S113
          have h40 := h40.mono S113
          have r48 := r48.mono S113
          have h64 := S113 _ _ h64
          have r67 := r67.mono S113
          have r68 := r68.mono S113
          have h72 := S113 _ _ h72
          have hl73 := hl73.mono S113
          have hl89 := hl89.mono S113
          have hl90 := hl90.mono S113
          have S85 := S85.trans S113
          obtain ⟨y95, e116, r117⟩ := RL.got hl89 hi106
          rw [drop_at e116] at hL97
          have hk := hLs98 _ _ _ _ hL97
          obtain rfl := R.int_ r117
          refine ⟨rfl, ?_⟩
          obtain ⟨p118, w119, e120, h121, hl122⟩ := R.lst_ r67
          cases e120
          obtain ⟨y123, e124, hk⟩ := wp_opt hk
          obtain ⟨w125, e126, r127⟩ := hl122.atI e124
          obtain rfl := R.int_ r127
          refine ⟨_, rfl, _, _, _, _, rfl, rfl, (SqTF O115.s h64), rfl, _, rfl, _, _, _, _, rfl, rfl, (SqLF O115.s h121), e126, _, (O115.at 0 rfl), (comp_len la110 hi106 hl89.len c100), ?_⟩
          exact ⟨F111, (), acc108 ++ [y123], wa109 ++ [V.int y123], S113, O115.set 0 (.lst (wa109 ++ [V.int y123])) rfl, RL.snoc hl114 R.int, by rw [List.length_append]; exact Nat.succ_le_succ la110, hk⟩
        rintro H129 ⟨F130, st131, acc132, wa133, S134, O135, hl136, la137, hL138⟩
        rw [drop_end hl89.len] at hL138
        have hk := hLd99 _ _ hL138
        have f_tree := f_tree.mono S134
        have h25 := h25.mono S134
        have h32 := h32.mono S134
        have h40 := h40.mono S134
        have r48 := r48.mono S134
        have h64 := S134 _ _ h64
        have r67 := r67.mono S134
        have r68 := r68.mono S134
        have h72 := S134 _ _ h72
        have hl73 := hl73.mono S134
        have hl89 := hl89.mono S134
        have hl90 := hl90.mono S134
        have S85 := S85.trans S134
        obtain ⟨F140, O141, S142, h143⟩ := O135.frzE 0 rfl z128
        have f_tree := f_tree.mono S142
        have h25 := h25.mono S142
        have h32 := h32.mono S142
        have h40 := h40.mono S142
        have r48 := r48.mono S142
        have h64 := S142 _ _ h64
        have r67 := r67.mono S142
        have r68 := r68.mono S142
        have h72 := S142 _ _ h72
        have hl73 := hl73.mono S142
        have hl89 := hl89.mono S142
        have hl90 := hl90.mono S142
        have S85 := S85.trans S142
        have hl136 := hl136.mono S142
        have h144 := R.lst (a := Int) h143 hl136
        obtain ⟨p145, w146, e147, h148, hl149⟩ := R.lst_ h144
        cases e147
        refine ⟨_, acc132, rfl, (by rw [← RL.ints hl149]; exact (SqLF O141.s h148)), _, rfl, _, _, (R.mono (R.jst R.int) O141.s), (R.mono r48 O141.s), _, rfl, ?_⟩
        refine iteD (fun q150 => ?_) (fun q150 => ?_)
        · have hk := wp_if hk q150
          have hi151 : ∀ b ∈ ([p51] : List Addr), ∃ o, (b, o) ∈ ([(p57, .lst w88), (p51, .lst w87)] : List (Addr × HO)) := (inA_cons 1 rfl inA_nil)
          have S152 := O141.lendS hi151
          have h153 := R.lst (a := Int) ((lendF_at (by simp)).trans (O141.at 1 rfl) : lendF [p51] F140 _ p51 = some (.lst w87)) (hl89.mono S152)
          refine ⟨_, rfl, _, rfl, _, _, _, _, _, rfl, (O141.lendP hi151), (h25.mono S152), h153, wp_call hk (fun r154 er155 hk F156 H157 g158 => ?_) (fun n hn C H1 hC kp => hn C H1 hC (O141.kp0 kp))⟩
          have O159 := O141.borrow S152 g158
          refine ⟨_, rfl, ?_⟩
          refine iteB (fun q160 => ?_) (fun q160 => ?_)
          · have hk := wp_if hk q160
            refine ⟨_, rfl, _, _, _, rfl, (O159.at 1 rfl), (RL.mono hl89 O159.s), fun p162 hp163 => ?_⟩
            have hl165 : RL (a := Int) F140 (sortV w87 st86.1) (sortT st86.1) := (RL.sorted hl89)
            have z166 := O159.was hp163
            have O164 := O159.new (o := .lst (sortV w87 st86.1)) hp163
            exact hk _ _  O164.g  _ _ z166 (O164.cf _ (List.mem_of_getElem? (i := 0) rfl)) (O164.at 0 rfl) hl165
          · have hk := wp_el hk q160
            refine ⟨_, rfl, _, rfl, _, _, R.int, R.int, _, rfl, ?_⟩
            refine iteD (fun q167 => ?_) (fun q167 => ?_)
            · have hk := wp_if hk q167
              refine ⟨_, rfl, _, rfl, _, rfl, _, rfl, (by show 1 ≤ sizeLine; decide), fun p168 hp169 => ?_⟩
              have hl175 : RL (a := Int) F140 ([V.int y74]) ([y74]) := RL.cons R.int RL.nil
              obtain ⟨F170, O171, S172, h173⟩ := O159.putE hp169 (.lst ([V.int y74]))
              have f_tree := f_tree.mono S172
              have h25 := h25.mono S172
              have h32 := h32.mono S172
              have h40 := h40.mono S172
              have r48 := r48.mono S172
              have h64 := S172 _ _ h64
              have r67 := r67.mono S172
              have r68 := r68.mono S172
              have h72 := S172 _ _ h72
              have hl73 := hl73.mono S172
              have hl89 := hl89.mono S172
              have hl90 := hl90.mono S172
              have S85 := S85.trans S172
              have h144 := h144.mono S172
              have h148 := S172 _ _ h148
              have hl149 := hl149.mono S172
              have hl175 := hl175.mono S172
              have h174 := R.lst (a := Int) h173 hl175
              obtain ⟨p176, w177, e178, h179, hl180⟩ := R.lst_ h174
              cases e178
              obtain ⟨c181, hk⟩ := wp_chk hk
              refine ⟨_, _, _, _, rfl, rfl, (O171.at 1 rfl), (O171.s _ _ h179), (by rw [hl89.len, hl180.len]; exact le_line c181), fun p182 hp183 => ?_⟩
              have hl189 : RL (a := Int) F170 (w87 ++ w177) (st86.1 ++ ([y74])) := RL.app hl89 hl180
              obtain ⟨F184, O185, S186, h187⟩ := O171.putE hp183 (.lst (w87 ++ w177))
              have f_tree := f_tree.mono S186
              have h25 := h25.mono S186
              have h32 := h32.mono S186
              have h40 := h40.mono S186
              have r48 := r48.mono S186
              have h64 := S186 _ _ h64
              have r67 := r67.mono S186
              have r68 := r68.mono S186
              have h72 := S186 _ _ h72
              have hl73 := hl73.mono S186
              have hl89 := hl89.mono S186
              have hl90 := hl90.mono S186
              have S85 := S85.trans S186
              have h144 := h144.mono S186
              have h148 := S186 _ _ h148
              have hl149 := hl149.mono S186
              have h174 := h174.mono S186
              have h179 := S186 _ _ h179
              have hl180 := hl180.mono S186
              have hl189 := hl189.mono S186
              have h188 := R.lst (a := Int) h187 hl189
              have hi190 : ∀ b ∈ ([p57] : List Addr), ∃ o, (b, o) ∈ ([(p57, .lst w88), (p51, .lst w87)] : List (Addr × HO)) := (inA_cons 0 rfl inA_nil)
              have S191 := O185.lendS hi190
              have h192 := R.lst (a := Int) ((lendF_at (by simp)).trans (O185.at 0 rfl) : lendF [p57] F184 _ p57 = some (.lst w88)) (hl90.mono S191)
              refine ⟨_, rfl, _, _, _, _, _, _, _, _, _, rfl, (O185.lendP hi190), (f_tree.mono S191), (h25.mono S191), (h188.mono S191), h192, wp_call hk (fun r193 er194 hk F195 H196 g197 v198 r199 => ?_) (fun n hn C H1 hC kp => hn C H1 hC (O185.kp0 kp))⟩
              obtain ⟨O200, S202, hT203, hN204⟩ := O185.unlend hi190 g197
              obtain ⟨F201, hFb_⟩ : ∃ z_, z_ = backF [p57] F195 := ⟨_, rfl⟩
              rw [← hFb_] at O200 S202 hT203 hN204
              have r199 := R.oi_mv (F' := F201) r199
              have f_tree := f_tree.mono S202
              have h25 := h25.mono S202
              have h32 := h32.mono S202
              have h40 := h40.mono S202
              have r48 := r48.mono S202
              have h64 := S202 _ _ h64
              have r67 := r67.mono S202
              have r68 := r68.mono S202
              have h72 := S202 _ _ h72
              have hl73 := hl73.mono S202
              have hl89 := hl89.mono S202
              have hl90 := hl90.mono S202
              have S85 := S85.trans S202
              have h144 := h144.mono S202
              have h148 := S202 _ _ h148
              have hl149 := hl149.mono S202
              have h174 := h174.mono S202
              have h179 := S202 _ _ h179
              have hl180 := hl180.mono S202
              have h188 := h188.mono S202
              refine ⟨_, rfl, _, _, (R.mono r199 O200.s), (R.mono r48 O200.s), _, rfl, ?_⟩
              refine iteD (fun q205 => ?_) (fun q205 => ?_)
              · have hk := wp_if hk q205
                obtain ⟨c206, hk⟩ := wp_appL hk
                refine ⟨_, rfl, (.inl ⟨rfl, _, SqL.of (O200.at 1 rfl)⟩), _, rfl, _, _, _, rfl, rfl, (O200.at 1 rfl), (by rw [hl89.len]; exact c206), ?_⟩
                have O208 := O200.set 1 (.lst (w87 ++ [V.int y74])) rfl
                have hl209 : RL (a := Int) F201 (w87 ++ [V.int y74]) (st86.1 ++ [y74]) := RL.snoc hl89 R.int
                exact ⟨F201, ((st86.1 ++ [y74]), st86.2), (w87 ++ [V.int y74]), w88, some (V.int y74), rfl, S85, O208, hl209, hl90, hk⟩
              · have hk := wp_el hk q205
                obtain ⟨c210, hk⟩ := wp_appL hk
                refine ⟨_, rfl, (.inl ⟨rfl, _, SqL.of (O200.at 0 rfl)⟩), _, rfl, _, _, _, rfl, rfl, (O200.at 0 rfl), (by rw [hl90.len]; exact c210), ?_⟩
                have O212 := O200.set 0 (.lst (w88 ++ [V.int y74])) rfl
                have hl213 : RL (a := Int) F201 (w88 ++ [V.int y74]) (st86.2 ++ [y74]) := RL.snoc hl90 R.int
                exact ⟨F201, (st86.1, (st86.2 ++ [y74])), w87, (w88 ++ [V.int y74]), some (V.int y74), rfl, S85, O212, hl89, hl213, hk⟩
            · have hk := wp_el hk q167
              exact ⟨F140, (st86.1, st86.2), w87, w88, some (V.int y74), rfl, S85, O159, hl89, hl90, hk⟩
        · have hk := wp_el hk q150
          refine iteF ?_
          refine ⟨_, rfl, _, rfl, _, _, R.int, R.int, _, rfl, ?_⟩
          refine iteD (fun q214 => ?_) (fun q214 => ?_)
          · have hk := wp_if hk q214
            refine ⟨_, rfl, _, rfl, _, rfl, _, rfl, (by show 1 ≤ sizeLine; decide), fun p215 hp216 => ?_⟩
            have hl222 : RL (a := Int) F140 ([V.int y74]) ([y74]) := RL.cons R.int RL.nil
            obtain ⟨F217, O218, S219, h220⟩ := O141.putE hp216 (.lst ([V.int y74]))
            have f_tree := f_tree.mono S219
            have h25 := h25.mono S219
            have h32 := h32.mono S219
            have h40 := h40.mono S219
            have r48 := r48.mono S219
            have h64 := S219 _ _ h64
            have r67 := r67.mono S219
            have r68 := r68.mono S219
            have h72 := S219 _ _ h72
            have hl73 := hl73.mono S219
            have hl89 := hl89.mono S219
            have hl90 := hl90.mono S219
            have S85 := S85.trans S219
            have h144 := h144.mono S219
            have h148 := S219 _ _ h148
            have hl149 := hl149.mono S219
            have hl222 := hl222.mono S219
            have h221 := R.lst (a := Int) h220 hl222
            obtain ⟨p223, w224, e225, h226, hl227⟩ := R.lst_ h221
            cases e225
            obtain ⟨c228, hk⟩ := wp_chk hk
            refine ⟨_, _, _, _, rfl, rfl, (O218.at 1 rfl), (O218.s _ _ h226), (by rw [hl89.len, hl227.len]; exact le_line c228), fun p229 hp230 => ?_⟩
            have hl236 : RL (a := Int) F217 (w87 ++ w224) (st86.1 ++ ([y74])) := RL.app hl89 hl227
            obtain ⟨F231, O232, S233, h234⟩ := O218.putE hp230 (.lst (w87 ++ w224))
            have f_tree := f_tree.mono S233
            have h25 := h25.mono S233
            have h32 := h32.mono S233
            have h40 := h40.mono S233
            have r48 := r48.mono S233
            have h64 := S233 _ _ h64
            have r67 := r67.mono S233
            have r68 := r68.mono S233
            have h72 := S233 _ _ h72
            have hl73 := hl73.mono S233
            have hl89 := hl89.mono S233
            have hl90 := hl90.mono S233
            have S85 := S85.trans S233
            have h144 := h144.mono S233
            have h148 := S233 _ _ h148
            have hl149 := hl149.mono S233
            have h221 := h221.mono S233
            have h226 := S233 _ _ h226
            have hl227 := hl227.mono S233
            have hl236 := hl236.mono S233
            have h235 := R.lst (a := Int) h234 hl236
            have hi237 : ∀ b ∈ ([p57] : List Addr), ∃ o, (b, o) ∈ ([(p57, .lst w88), (p51, .lst w87)] : List (Addr × HO)) := (inA_cons 0 rfl inA_nil)
            have S238 := O232.lendS hi237
            have h239 := R.lst (a := Int) ((lendF_at (by simp)).trans (O232.at 0 rfl) : lendF [p57] F231 _ p57 = some (.lst w88)) (hl90.mono S238)
            refine ⟨_, rfl, _, _, _, _, _, _, _, _, _, rfl, (O232.lendP hi237), (f_tree.mono S238), (h25.mono S238), (h235.mono S238), h239, wp_call hk (fun r240 er241 hk F242 H243 g244 v245 r246 => ?_) (fun n hn C H1 hC kp => hn C H1 hC (O232.kp0 kp))⟩
            obtain ⟨O247, S249, hT250, hN251⟩ := O232.unlend hi237 g244
            obtain ⟨F248, hFb_⟩ : ∃ z_, z_ = backF [p57] F242 := ⟨_, rfl⟩
            rw [← hFb_] at O247 S249 hT250 hN251
            have r246 := R.oi_mv (F' := F248) r246
            have f_tree := f_tree.mono S249
            have h25 := h25.mono S249
            have h32 := h32.mono S249
            have h40 := h40.mono S249
            have r48 := r48.mono S249
            have h64 := S249 _ _ h64
            have r67 := r67.mono S249
            have r68 := r68.mono S249
            have h72 := S249 _ _ h72
            have hl73 := hl73.mono S249
            have hl89 := hl89.mono S249
            have hl90 := hl90.mono S249
            have S85 := S85.trans S249
            have h144 := h144.mono S249
            have h148 := S249 _ _ h148
            have hl149 := hl149.mono S249
            have h221 := h221.mono S249
            have h226 := S249 _ _ h226
            have hl227 := hl227.mono S249
            have h235 := h235.mono S249
            refine ⟨_, rfl, _, _, (R.mono r246 O247.s), (R.mono r48 O247.s), _, rfl, ?_⟩
            refine iteD (fun q252 => ?_) (fun q252 => ?_)
            · have hk := wp_if hk q252
              obtain ⟨c253, hk⟩ := wp_appL hk
              refine ⟨_, rfl, (.inl ⟨rfl, _, SqL.of (O247.at 1 rfl)⟩), _, rfl, _, _, _, rfl, rfl, (O247.at 1 rfl), (by rw [hl89.len]; exact c253), ?_⟩
              have O255 := O247.set 1 (.lst (w87 ++ [V.int y74])) rfl
              have hl256 : RL (a := Int) F248 (w87 ++ [V.int y74]) (st86.1 ++ [y74]) := RL.snoc hl89 R.int
              exact ⟨F248, ((st86.1 ++ [y74]), st86.2), (w87 ++ [V.int y74]), w88, some (V.int y74), rfl, S85, O255, hl256, hl90, hk⟩
            · have hk := wp_el hk q252
              obtain ⟨c257, hk⟩ := wp_appL hk
              refine ⟨_, rfl, (.inl ⟨rfl, _, SqL.of (O247.at 0 rfl)⟩), _, rfl, _, _, _, rfl, rfl, (O247.at 0 rfl), (by rw [hl90.len]; exact c257), ?_⟩
              have O259 := O247.set 0 (.lst (w88 ++ [V.int y74])) rfl
              have hl260 : RL (a := Int) F248 (w88 ++ [V.int y74]) (st86.2 ++ [y74]) := RL.snoc hl90 R.int
              exact ⟨F248, (st86.1, (st86.2 ++ [y74])), w87, (w88 ++ [V.int y74]), some (V.int y74), rfl, S85, O259, hl89, hl260, hk⟩
          · have hk := wp_el hk q214
            exact ⟨F140, (st86.1, st86.2), w87, w88, some (V.int y74), rfl, S85, O141, hl89, hl90, hk⟩
      · have hk := wp_el hk q94
        refine iteF ?_
        refine ⟨_, rfl, _, rfl, _, _, R.int, R.int, _, rfl, ?_⟩
        refine iteD (fun q261 => ?_) (fun q261 => ?_)
        · have hk := wp_if hk q261
          refine ⟨_, rfl, _, rfl, _, rfl, _, rfl, (by show 1 ≤ sizeLine; decide), fun p262 hp263 => ?_⟩
          have hl269 : RL (a := Int) F92 ([V.int y74]) ([y74]) := RL.cons R.int RL.nil
          obtain ⟨F264, O265, S266, h267⟩ := O93.putE hp263 (.lst ([V.int y74]))
          have f_tree := f_tree.mono S266
          have h25 := h25.mono S266
          have h32 := h32.mono S266
          have h40 := h40.mono S266
          have r48 := r48.mono S266
          have h64 := S266 _ _ h64
          have r67 := r67.mono S266
          have r68 := r68.mono S266
          have h72 := S266 _ _ h72
          have hl73 := hl73.mono S266
          have hl89 := hl89.mono S266
          have hl90 := hl90.mono S266
          have S85 := S85.trans S266
          have hl269 := hl269.mono S266
          have h268 := R.lst (a := Int) h267 hl269
          obtain ⟨p270, w271, e272, h273, hl274⟩ := R.lst_ h268
          cases e272
          obtain ⟨c275, hk⟩ := wp_chk hk
          refine ⟨_, _, _, _, rfl, rfl, (O265.at 1 rfl), (O265.s _ _ h273), (by rw [hl89.len, hl274.len]; exact le_line c275), fun p276 hp277 => ?_⟩
          have hl283 : RL (a := Int) F264 (w87 ++ w271) (st86.1 ++ ([y74])) := RL.app hl89 hl274
          obtain ⟨F278, O279, S280, h281⟩ := O265.putE hp277 (.lst (w87 ++ w271))
          have f_tree := f_tree.mono S280
          have h25 := h25.mono S280
          have h32 := h32.mono S280
          have h40 := h40.mono S280
          have r48 := r48.mono S280
          have h64 := S280 _ _ h64
          have r67 := r67.mono S280
          have r68 := r68.mono S280
          have h72 := S280 _ _ h72
          have hl73 := hl73.mono S280
          have hl89 := hl89.mono S280
          have hl90 := hl90.mono S280
          have S85 := S85.trans S280
          have h268 := h268.mono S280
          have h273 := S280 _ _ h273
          have hl274 := hl274.mono S280
          have hl283 := hl283.mono S280
          have h282 := R.lst (a := Int) h281 hl283
          have hi284 : ∀ b ∈ ([p57] : List Addr), ∃ o, (b, o) ∈ ([(p57, .lst w88), (p51, .lst w87)] : List (Addr × HO)) := (inA_cons 0 rfl inA_nil)
          have S285 := O279.lendS hi284
          have h286 := R.lst (a := Int) ((lendF_at (by simp)).trans (O279.at 0 rfl) : lendF [p57] F278 _ p57 = some (.lst w88)) (hl90.mono S285)
          refine ⟨_, rfl, _, _, _, _, _, _, _, _, _, rfl, (O279.lendP hi284), (f_tree.mono S285), (h25.mono S285), (h282.mono S285), h286, wp_call hk (fun r287 er288 hk F289 H290 g291 v292 r293 => ?_) (fun n hn C H1 hC kp => hn C H1 hC (O279.kp0 kp))⟩
          obtain ⟨O294, S296, hT297, hN298⟩ := O279.unlend hi284 g291
          obtain ⟨F295, hFb_⟩ : ∃ z_, z_ = backF [p57] F289 := ⟨_, rfl⟩
          rw [← hFb_] at O294 S296 hT297 hN298
          have r293 := R.oi_mv (F' := F295) r293
          have f_tree := f_tree.mono S296
          have h25 := h25.mono S296
          have h32 := h32.mono S296
          have h40 := h40.mono S296
          have r48 := r48.mono S296
          have h64 := S296 _ _ h64
          have r67 := r67.mono S296
          have r68 := r68.mono S296
          have h72 := S296 _ _ h72
          have hl73 := hl73.mono S296
          have hl89 := hl89.mono S296
          have hl90 := hl90.mono S296
          have S85 := S85.trans S296
          have h268 := h268.mono S296
          have h273 := S296 _ _ h273
          have hl274 := hl274.mono S296
          have h282 := h282.mono S296
          refine ⟨_, rfl, _, _, (R.mono r293 O294.s), (R.mono r48 O294.s), _, rfl, ?_⟩
          refine iteD (fun q299 => ?_) (fun q299 => ?_)
          · have hk := wp_if hk q299
            obtain ⟨c300, hk⟩ := wp_appL hk
            refine ⟨_, rfl, (.inl ⟨rfl, _, SqL.of (O294.at 1 rfl)⟩), _, rfl, _, _, _, rfl, rfl, (O294.at 1 rfl), (by rw [hl89.len]; exact c300), ?_⟩
            have O302 := O294.set 1 (.lst (w87 ++ [V.int y74])) rfl
            have hl303 : RL (a := Int) F295 (w87 ++ [V.int y74]) (st86.1 ++ [y74]) := RL.snoc hl89 R.int
            exact ⟨F295, ((st86.1 ++ [y74]), st86.2), (w87 ++ [V.int y74]), w88, some (V.int y74), rfl, S85, O302, hl303, hl90, hk⟩
          · have hk := wp_el hk q299
            obtain ⟨c304, hk⟩ := wp_appL hk
            refine ⟨_, rfl, (.inl ⟨rfl, _, SqL.of (O294.at 0 rfl)⟩), _, rfl, _, _, _, rfl, rfl, (O294.at 0 rfl), (by rw [hl90.len]; exact c304), ?_⟩
            have O306 := O294.set 0 (.lst (w88 ++ [V.int y74])) rfl
            have hl307 : RL (a := Int) F295 (w88 ++ [V.int y74]) (st86.2 ++ [y74]) := RL.snoc hl90 R.int
            exact ⟨F295, (st86.1, (st86.2 ++ [y74])), w87, (w88 ++ [V.int y74]), some (V.int y74), rfl, S85, O306, hl89, hl307, hk⟩
        · have hk := wp_el hk q261
          exact ⟨F92, (st86.1, st86.2), w87, w88, some (V.int y74), rfl, S85, O93, hl89, hl90, hk⟩
    rintro sg308 H309 ⟨F318, st311, w313, w314, t317, rfl, S310, O319, hl315, hl316, hL312⟩
    rw [rangeL_end0] at hL312
    have hk := hLd79 _ hL312
    have f_tree := f_tree.mono S310
    have h25 := h25.mono S310
    have h32 := h32.mono S310
    have h40 := h40.mono S310
    have r48 := r48.mono S310
    have h64 := S310 _ _ h64
    have r67 := r67.mono S310
    have r68 := r68.mono S310
    have h72 := S310 _ _ h72
    have hl73 := hl73.mono S310
    refine ⟨_, rfl, _, _, _, rfl, (O319.at 1 rfl), (RL.mono hl315 O319.s), fun p322 hp323 => ?_⟩
    have hl325 : RL (a := Int) F318 (sortV w313 st311.1) (sortT st311.1) := (RL.sorted hl315)
    have z326 := O319.was hp323
    have O324 := O319.new (o := .lst (sortV w313 st311.1)) hp323
    exact hk _ _  O324.g  _ _ z326 (O324.cf _ (List.mem_of_getElem? (i := 0) rfl)) (O324.at 0 rfl) hl325
abbrev s_law_cell_at : Stmt := top 24
theorem sc_law_cell_at : FnScope ["script", "k"] ["script", "k"] (defScope s_law_cell_at) := ⟨rfl, rfl, rfl, by decide +kernel, rfl, by decide +kernel, by decide +kernel⟩
def m_law_cell_at (x_script : (List Int)) (x_k : Int) : M (Int) :=
if x_k < (x_script.length : Int) then (
opt (atI x_script x_k) >>= fun y2 =>
.ok y2)
else (
.ok (0 : Int))
def sp_law_cell_at (K : PySem.W.Frag) (mg : Str → Option Value) : Sp := fun vs H Q E => ∃ (F : Hp) (a_script : Addr) (x_script : (List Int)) (x_k : Int), vs = [.ref a_script, V.int x_k] ∧ Pre F [] H ∧ SqL K F a_script (x_script.map V.int) ∧
  wp (m_law_cell_at x_script x_k) (fun r => ∀ (F' H' : Hp), Gr [] F H F' H' → Q (V.int r) H')
  (fun n => ∀ (C : Addr) (H' : Hp), mg (Str.ofString n) = some (.ref C) → Kp [] H H' → E (.ref C) none H')
set_option maxHeartbeats 20000000 in
theorem ok_law_cell_at (nb : Nb mg) (D : Df K mg "_law_cell_at" "_law_cell_at" s_law_cell_at ["script", "k"]) : Ca P w K mg base "_law_cell_at" 1 ["script", "k"] (sp_law_cell_at K mg) := by
  refine Ca.mk' D sc_law_cell_at (fun vs H Q E h => ?_) (fun q_ f_ cdv A outer s H vs Q E hr h => ?_)
  · obtain ⟨F, _, _, _, rfl, _⟩ := h
    rfl
  · obtain ⟨F, a_script, x_script, x_k, rfl, P0, f_script, hk⟩ := h
    have nd := sc_law_cell_at.nd
    have hu64 := hr.units
    have hu128 := hu128_of hr
    have O := P0.start
    refine ⟨_, (pss_cons (ps_if (pt_cmpR op_lt (pv 1) (pe_callB (call_lenS (K := K) rfl) (by rfl) nb.b_len PySem.boot_len (pa_cons (pv 0) pa_nil)) (nomark _)) (pss_one (ps_ret (pe_ix (ixListK (K := K) rfl) (pv 0) (pv 1) (fun _ _ => rfl)))) pss_nil)
  (pss_one (ps_ret pe_int))), ?_⟩
    refine ⟨_, rfl, _, rfl, _, _, rfl, (O.s.seq f_script), ?_⟩
    rw [List.length_map]
    refine ⟨_, _, rfl, rfl, _, rfl, ?_⟩
    refine iteD (fun q1 => ?_) (fun q1 => ?_)
    · have hk := wp_if hk q1
      obtain ⟨y2, e3, hk⟩ := wp_opt hk
      obtain ⟨w4, e5, r6⟩ := (RL.of_ints (H := F)).atI e3
      obtain rfl := R.int_ r6
      refine ⟨_, rfl, _, rfl, _, _, _, _, rfl, rfl, (O.s.seq f_script), e5, ?_⟩
      exact hk _ _  O.g 
    · have hk := wp_el hk q1
      exact hk _ _  O.g 
abbrev s_law_numbers : Stmt := top 25
theorem sc_law_numbers : FnScope ["cell", "many", "base", "row", "rest", "k", "stir"] ["cell", "many", "base"] (defScope s_law_numbers) := ⟨rfl, rfl, rfl, by decide +kernel, rfl, by decide +kernel, by decide +kernel⟩
def m_law_numbers (x_cell : Int) (x_many : Int) (x_base : Int) : M ((List Int)) :=
chk (CMulX ((10 : Int) ^ Int.toNat (45 : Int)) ((10 : Int) ^ Int.toNat (45 : Int))) >>= fun _ =>
chk (0 < (((10 : Int) ^ Int.toNat (45 : Int)) * ((10 : Int) ^ Int.toNat (45 : Int)))) >>= fun _ =>
ret ((x_cell % (((10 : Int) ^ Int.toNat (45 : Int)) * ((10 : Int) ^ Int.toNat (45 : Int)))) - ((10 : Int) ^ Int.toNat (18 : Int))) >>= fun n9 =>
chk (okR x_many) >>= fun _ =>
loopN (fun (y11 : Int) (st23 : Int × (List Int)) =>
chk (CMulX (977 : Int) y11) >>= fun _ =>
chk (CMulX (((x_cell % (((10 : Int) ^ Int.toNat (45 : Int)) * ((10 : Int) ^ Int.toNat (45 : Int)))) + ((977 : Int) * y11)) + (1 : Int)) (48271 : Int)) >>= fun _ =>
chk (0 < (2147483647 : Int)) >>= fun _ =>
ret (((((x_cell % (((10 : Int) ^ Int.toNat (45 : Int)) * ((10 : Int) ^ Int.toNat (45 : Int)))) + ((977 : Int) * y11)) + (1 : Int)) * (48271 : Int)) % (2147483647 : Int)) >>= fun n33 =>
chk (CMulX n33 n33) >>= fun _ =>
chk (0 < (2147483629 : Int)) >>= fun _ =>
ret ((n33 * n33) % (2147483629 : Int)) >>= fun n37 =>
chk (CMulX (40692 : Int) (y11 + (3 : Int))) >>= fun _ =>
chk (CMulX (n37 + ((40692 : Int) * (y11 + (3 : Int)))) (69621 : Int)) >>= fun _ =>
chk (0 < (2147483563 : Int)) >>= fun _ =>
chk (CDivW (((n37 + ((40692 : Int) * (y11 + (3 : Int)))) * (69621 : Int)) % (2147483563 : Int)) (8 : Int)) >>= fun _ =>
ret ((((n37 + ((40692 : Int) * (y11 + (3 : Int)))) * (69621 : Int)) % (2147483563 : Int)) / (8 : Int)) >>= fun n43 =>
if ((10 : Int) ^ Int.toNat (18 : Int)) ≤ (x_cell % (((10 : Int) ^ Int.toNat (45 : Int)) * ((10 : Int) ^ Int.toNat (45 : Int)))) then (
chk (CDivW st23.1 x_base) >>= fun _ =>
chk (0 < x_base) >>= fun _ =>
appL st23.2 (st23.1 % x_base) >>= fun _ =>
.ok ((st23.1 / x_base), (st23.2 ++ [(st23.1 % x_base)])))
else (
chk (0 < x_base) >>= fun _ =>
appL st23.2 (n43 % x_base) >>= fun _ =>
.ok (st23.1, (st23.2 ++ [(n43 % x_base)])))) (rangeL 0 x_many) (n9, ([] : List Int)) >>= fun st60 =>
.ok st60.2
def sp_law_numbers (mg : Str → Option Value) : Sp := fun vs H Q E => ∃ (F : Hp) (x_cell : Int) (x_many : Int) (x_base : Int), vs = [V.int x_cell, V.int x_many, V.int x_base] ∧ Pre F [] H ∧
  wp (m_law_numbers x_cell x_many x_base) (fun r => ∀ (F' H' : Hp), Gr [] F H F' H' → ∀ (p : Addr) (w : (List V)), H p = none → F' p = none → H' p = some (.lst w) → RL (a := Int) F' w r → Q (.ref p) H')
  (fun n => ∀ (C : Addr) (H' : Hp), mg (Str.ofString n) = some (.ref C) → Kp [] H H' → E (.ref C) none H')
set_option maxHeartbeats 20000000 in
theorem ok_law_numbers (nb : Nb mg) (D : Df K mg "_law_numbers" "_law_numbers" s_law_numbers ["cell", "many", "base"]) : Ca P w K mg base "_law_numbers" 1 ["cell", "many", "base"] (sp_law_numbers mg) := by
  refine Ca.mk' D sc_law_numbers (fun vs H Q E h => ?_) (fun q_ f_ cdv A outer s H vs Q E hr h => ?_)
  · obtain ⟨F, _, _, _, rfl, _⟩ := h
    rfl
  · obtain ⟨F, x_cell, x_many, x_base, rfl, P0, hk⟩ := h
    have nd := sc_law_numbers.nd
    have hu64 := hr.units
    have hu128 := hu128_of hr
    have O := P0.start
    refine ⟨_, (pss_cons (ps_toN (ps_set (i := 0) nd rfl (Or.inl rfl) (pe_op op_mod (pv 0) (pe_op op_mulX (pe_op op_pow pe_int pe_int) (pe_op op_pow pe_int pe_int)))))
  (pss_cons (ps_toN (ps_set (i := 3) nd rfl (Or.inl rfl) (pe_lst pa_nil)))
  (pss_cons (ps_toN (ps_set (i := 4) nd rfl (Or.inl rfl) (pe_op op_sub (pv 0) (pe_op op_pow pe_int pe_int))))
  (pss_cons (ps_for (passes_of rfl) rfl (pi_range1 rfl nb.b_range (pa_cons (pv 1) pa_nil)) (pg_name (i := 5) nd rfl (Or.inl rfl)) (pss_cons (ps_toN (ps_set (i := 6) nd rfl (Or.inl rfl) (pe_op op_mod (pe_op op_mulX (pe_op op_add (pe_op op_add (pv 0) (pe_op op_mulX pe_int (pv 5))) pe_int) pe_int) pe_int)))
  (pss_cons (ps_toN (ps_set (i := 6) nd rfl (Or.inl rfl) (pe_op op_mod (pe_op op_mulX (pv 6) (pv 6)) pe_int)))
  (pss_cons (ps_toN (ps_set (i := 6) nd rfl (Or.inl rfl) (pe_op op_fdivW (pe_op op_mod (pe_op op_mulX (pe_op op_add (pv 6) (pe_op op_mulX pe_int (pe_op op_add (pv 5) pe_int))) pe_int) pe_int) pe_int)))
  (pss_cons (ps_if (pt_cmpR op_ge (pv 0) (pe_op op_pow pe_int pe_int) (nomark _)) (pss_cons (ps_toN (ps_set (i := 6) nd rfl (Or.inl rfl) (pv 4)))
  (pss_one (ps_toN (ps_set (i := 4) nd rfl (Or.inl rfl) (pe_op op_fdivW (pv 4) (pv 2)))))) pss_nil)
  (pss_one (ps_expr (bmK (K := K) rfl (pe_bm PySem.F.plainAttrs_list PySem.F.slot_list_append PySem.F.type_list_append mt_append (pv 3) (pa_cons (pe_op op_mod (pv 6) (pv 2)) pa_nil))))))))))
  (pss_one (ps_ret (pv 3))))))), ?_⟩
    obtain ⟨c1, hk⟩ := wp_chk hk
    obtain ⟨c2, hk⟩ := wp_chk hk
    refine ⟨_, rfl, _, _, rfl, rfl, (by decide), _, _, rfl, rfl, (by decide), _, _, rfl, rfl, c1, _, _, rfl, rfl, c2, [some (V.int (x_cell % (((10 : Int) ^ Int.toNat (45 : Int)) * ((10 : Int) ^ Int.toNat (45 : Int))))), some (V.int x_many), some (V.int x_base), none, none, none, none], rfl, (by show 0 ≤ sizeLine; decide), fun p4 hp5 => ?_⟩
    have hl7 : RL (a := Int) F ([]) ([] : List Int) := RL.nil
    have z8 := O.was hp5
    have O6 := O.new (o := .lst ([])) hp5
    obtain ⟨n9, hn10, hk⟩ := wp_ret hk
    subst hn10
    obtain ⟨c12, hk⟩ := wp_chk hk
    obtain ⟨L13, hL14, hLs15, hLd16⟩ := loopN_L hk
    refine ⟨[some (V.int (x_cell % (((10 : Int) ^ Int.toNat (45 : Int)) * ((10 : Int) ^ Int.toNat (45 : Int))))), some (V.int x_many), some (V.int x_base), some (V.ref p4), none, none, none], rfl, _, rfl, _, _, rfl, rfl, (by decide), _, _, rfl, rfl, [some (V.int (x_cell % (((10 : Int) ^ Int.toNat (45 : Int)) * ((10 : Int) ^ Int.toNat (45 : Int))))), some (V.int x_many), some (V.int x_base), some (V.ref p4), some (V.int ((x_cell % (((10 : Int) ^ Int.toNat (45 : Int)) * ((10 : Int) ^ Int.toNat (45 : Int)))) - ((10 : Int) ^ Int.toNat (18 : Int)))), none, none], rfl, _, rfl, _, rfl, c12.lo, c12.hi, ?_⟩
    refine for_range (lo := 0) (n := (x_many).toNat) (fun i σ H_ => ∃ (F_ : Hp) (st : Int × (List Int)) (w_0 : (List V)) (t_0 : Option V) (t_1 : Option V), σ = [some (V.int (x_cell % (((10 : Int) ^ Int.toNat (45 : Int)) * ((10 : Int) ^ Int.toNat (45 : Int))))), some (V.int x_many), some (V.int x_base), some (V.ref p4), some (V.int st.1), t_0, t_1] ∧ Same F F_ ∧ Ow _ F_ [(p4, .lst w_0)] H_ ∧ RL (a := Int) F_ w_0 st.2 ∧ L13 (List.drop i (rangeL 0 x_many)) st) ⟨F, (((x_cell % (((10 : Int) ^ Int.toNat (45 : Int)) * ((10 : Int) ^ Int.toNat (45 : Int)))) - ((10 : Int) ^ Int.toNat (18 : Int))), ([] : List Int)), [], none, none, rfl, Same.refl _, O6, hl7, hL14⟩ ?_ ?_
    · rintro i17 sg19 H20 hi21 ⟨F28, st23, w24, t26, t27, rfl, S22, O29, hl25, hL14⟩
      rw [rangeL_get0 hi21] at hL14
      have hk := hLs15 _ _ _ hL14
      obtain ⟨y11, he_⟩ : ∃ z_, z_ = 0 + (i17 : Int) := ⟨_, rfl⟩
      try rw [← he_] at hk
      rw [← he_]
      obtain ⟨c30, hk⟩ := wp_chk hk
      obtain ⟨c31, hk⟩ := wp_chk hk
      obtain ⟨c32, hk⟩ := wp_chk hk
      obtain ⟨n33, hn34, hk⟩ := wp_ret hk
      subst hn34
      obtain ⟨c35, hk⟩ := wp_chk hk
      obtain ⟨c36, hk⟩ := wp_chk hk
      obtain ⟨n37, hn38, hk⟩ := wp_ret hk
      subst hn38
      obtain ⟨c39, hk⟩ := wp_chk hk
      obtain ⟨c40, hk⟩ := wp_chk hk
      obtain ⟨c41, hk⟩ := wp_chk hk
      obtain ⟨c42, hk⟩ := wp_chk hk
      obtain ⟨n43, hn44, hk⟩ := wp_ret hk
      subst hn44
      refine ⟨_, rfl, _, rfl, _, _, rfl, rfl, c30, _, _, rfl, rfl, _, _, rfl, rfl, _, _, rfl, rfl, c31, _, _, rfl, rfl, c32, [some (V.int (x_cell % (((10 : Int) ^ Int.toNat (45 : Int)) * ((10 : Int) ^ Int.toNat (45 : Int))))), some (V.int x_many), some (V.int x_base), some (V.ref p4), some (V.int st23.1), some (V.int y11), some (V.int (((((x_cell % (((10 : Int) ^ Int.toNat (45 : Int)) * ((10 : Int) ^ Int.toNat (45 : Int)))) + ((977 : Int) * y11)) + (1 : Int)) * (48271 : Int)) % (2147483647 : Int)))], rfl, _, rfl, _, rfl, _, _, rfl, rfl, c35, _, _, rfl, rfl, c36, [some (V.int (x_cell % (((10 : Int) ^ Int.toNat (45 : Int)) * ((10 : Int) ^ Int.toNat (45 : Int))))), some (V.int x_many), some (V.int x_base), some (V.ref p4), some (V.int st23.1), some (V.int y11), some (V.int (((((((x_cell % (((10 : Int) ^ Int.toNat (45 : Int)) * ((10 : Int) ^ Int.toNat (45 : Int)))) + ((977 : Int) * y11)) + (1 : Int)) * (48271 : Int)) % (2147483647 : Int)) * (((((x_cell % (((10 : Int) ^ Int.toNat (45 : Int)) * ((10 : Int) ^ Int.toNat (45 : Int)))) + ((977 : Int) * y11)) + (1 : Int)) * (48271 : Int)) % (2147483647 : Int))) % (2147483629 : Int)))], rfl, _, rfl, _, rfl, _, _, rfl, rfl, _, _, rfl, rfl, c39, _, _, rfl, rfl, _, _, rfl, rfl, c40, _, _, rfl, rfl, c41, _, _, rfl, rfl, c42, [some (V.int (x_cell % (((10 : Int) ^ Int.toNat (45 : Int)) * ((10 : Int) ^ Int.toNat (45 : Int))))), some (V.int x_many), some (V.int x_base), some (V.ref p4), some (V.int st23.1), some (V.int y11), some (V.int (((((((((((x_cell % (((10 : Int) ^ Int.toNat (45 : Int)) * ((10 : Int) ^ Int.toNat (45 : Int)))) + ((977 : Int) * y11)) + (1 : Int)) * (48271 : Int)) % (2147483647 : Int)) * (((((x_cell % (((10 : Int) ^ Int.toNat (45 : Int)) * ((10 : Int) ^ Int.toNat (45 : Int)))) + ((977 : Int) * y11)) + (1 : Int)) * (48271 : Int)) % (2147483647 : Int))) % (2147483629 : Int)) + ((40692 : Int) * (y11 + (3 : Int)))) * (69621 : Int)) % (2147483563 : Int)) / (8 : Int)))], rfl, _, rfl, _, _, rfl, rfl, (by decide), _, _, rfl, rfl, _, rfl, ?_⟩
      refine iteD (fun q45 => ?_) (fun q45 => ?_)
      · have hk := wp_if hk q45
        obtain ⟨c46, hk⟩ := wp_chk hk
        obtain ⟨c47, hk⟩ := wp_chk hk
        obtain ⟨c48, hk⟩ := wp_appL hk
        refine ⟨_, rfl, [some (V.int (x_cell % (((10 : Int) ^ Int.toNat (45 : Int)) * ((10 : Int) ^ Int.toNat (45 : Int))))), some (V.int x_many), some (V.int x_base), some (V.ref p4), some (V.int st23.1), some (V.int y11), some (V.int st23.1)], rfl, _, rfl, _, rfl, _, _, rfl, rfl, c46, [some (V.int (x_cell % (((10 : Int) ^ Int.toNat (45 : Int)) * ((10 : Int) ^ Int.toNat (45 : Int))))), some (V.int x_many), some (V.int x_base), some (V.ref p4), some (V.int (st23.1 / x_base)), some (V.int y11), some (V.int st23.1)], rfl, _, rfl, (.inl ⟨rfl, _, SqL.of (O29.at 0 rfl)⟩), _, rfl, _, rfl, _, _, rfl, rfl, c47, _, _, _, rfl, rfl, (O29.at 0 rfl), (by rw [hl25.len]; exact c48), ?_⟩
        have O50 := O29.set 0 (.lst (w24 ++ [V.int (st23.1 % x_base)])) rfl
        have hl51 : RL (a := Int) F28 (w24 ++ [V.int (st23.1 % x_base)]) (st23.2 ++ [(st23.1 % x_base)]) := RL.snoc hl25 R.int
        exact ⟨F28, ((st23.1 / x_base), (st23.2 ++ [(st23.1 % x_base)])), (w24 ++ [V.int (st23.1 % x_base)]), some (V.int y11), some (V.int st23.1), rfl, S22, O50, hl51, hk⟩
      · have hk := wp_el hk q45
        obtain ⟨c52, hk⟩ := wp_chk hk
        obtain ⟨c53, hk⟩ := wp_appL hk
        refine ⟨_, rfl, (.inl ⟨rfl, _, SqL.of (O29.at 0 rfl)⟩), _, rfl, _, rfl, _, _, rfl, rfl, c52, _, _, _, rfl, rfl, (O29.at 0 rfl), (by rw [hl25.len]; exact c53), ?_⟩
        have O55 := O29.set 0 (.lst (w24 ++ [V.int ((((((((((((x_cell % (((10 : Int) ^ Int.toNat (45 : Int)) * ((10 : Int) ^ Int.toNat (45 : Int)))) + ((977 : Int) * y11)) + (1 : Int)) * (48271 : Int)) % (2147483647 : Int)) * (((((x_cell % (((10 : Int) ^ Int.toNat (45 : Int)) * ((10 : Int) ^ Int.toNat (45 : Int)))) + ((977 : Int) * y11)) + (1 : Int)) * (48271 : Int)) % (2147483647 : Int))) % (2147483629 : Int)) + ((40692 : Int) * (y11 + (3 : Int)))) * (69621 : Int)) % (2147483563 : Int)) / (8 : Int)) % x_base)])) rfl
        have hl56 : RL (a := Int) F28 (w24 ++ [V.int ((((((((((((x_cell % (((10 : Int) ^ Int.toNat (45 : Int)) * ((10 : Int) ^ Int.toNat (45 : Int)))) + ((977 : Int) * y11)) + (1 : Int)) * (48271 : Int)) % (2147483647 : Int)) * (((((x_cell % (((10 : Int) ^ Int.toNat (45 : Int)) * ((10 : Int) ^ Int.toNat (45 : Int)))) + ((977 : Int) * y11)) + (1 : Int)) * (48271 : Int)) % (2147483647 : Int))) % (2147483629 : Int)) + ((40692 : Int) * (y11 + (3 : Int)))) * (69621 : Int)) % (2147483563 : Int)) / (8 : Int)) % x_base)]) (st23.2 ++ [((((((((((((x_cell % (((10 : Int) ^ Int.toNat (45 : Int)) * ((10 : Int) ^ Int.toNat (45 : Int)))) + ((977 : Int) * y11)) + (1 : Int)) * (48271 : Int)) % (2147483647 : Int)) * (((((x_cell % (((10 : Int) ^ Int.toNat (45 : Int)) * ((10 : Int) ^ Int.toNat (45 : Int)))) + ((977 : Int) * y11)) + (1 : Int)) * (48271 : Int)) % (2147483647 : Int))) % (2147483629 : Int)) + ((40692 : Int) * (y11 + (3 : Int)))) * (69621 : Int)) % (2147483563 : Int)) / (8 : Int)) % x_base)]) := RL.snoc hl25 R.int
        exact ⟨F28, (st23.1, (st23.2 ++ [((((((((((((x_cell % (((10 : Int) ^ Int.toNat (45 : Int)) * ((10 : Int) ^ Int.toNat (45 : Int)))) + ((977 : Int) * y11)) + (1 : Int)) * (48271 : Int)) % (2147483647 : Int)) * (((((x_cell % (((10 : Int) ^ Int.toNat (45 : Int)) * ((10 : Int) ^ Int.toNat (45 : Int)))) + ((977 : Int) * y11)) + (1 : Int)) * (48271 : Int)) % (2147483647 : Int))) % (2147483629 : Int)) + ((40692 : Int) * (y11 + (3 : Int)))) * (69621 : Int)) % (2147483563 : Int)) / (8 : Int)) % x_base)])), (w24 ++ [V.int ((((((((((((x_cell % (((10 : Int) ^ Int.toNat (45 : Int)) * ((10 : Int) ^ Int.toNat (45 : Int)))) + ((977 : Int) * y11)) + (1 : Int)) * (48271 : Int)) % (2147483647 : Int)) * (((((x_cell % (((10 : Int) ^ Int.toNat (45 : Int)) * ((10 : Int) ^ Int.toNat (45 : Int)))) + ((977 : Int) * y11)) + (1 : Int)) * (48271 : Int)) % (2147483647 : Int))) % (2147483629 : Int)) + ((40692 : Int) * (y11 + (3 : Int)))) * (69621 : Int)) % (2147483563 : Int)) / (8 : Int)) % x_base)]), some (V.int y11), some (V.int (((((((((((x_cell % (((10 : Int) ^ Int.toNat (45 : Int)) * ((10 : Int) ^ Int.toNat (45 : Int)))) + ((977 : Int) * y11)) + (1 : Int)) * (48271 : Int)) % (2147483647 : Int)) * (((((x_cell % (((10 : Int) ^ Int.toNat (45 : Int)) * ((10 : Int) ^ Int.toNat (45 : Int)))) + ((977 : Int) * y11)) + (1 : Int)) * (48271 : Int)) % (2147483647 : Int))) % (2147483629 : Int)) + ((40692 : Int) * (y11 + (3 : Int)))) * (69621 : Int)) % (2147483563 : Int)) / (8 : Int))), rfl, S22, O55, hl56, hk⟩
    rintro sg57 H58 ⟨F66, st60, w62, t64, t65, rfl, S59, O67, hl63, hL61⟩
    rw [rangeL_end0] at hL61
    have hk := hLd16 _ hL61
    refine ⟨_, rfl, ?_⟩
    exact hk _ _  O67.g  _ _ z8 (O67.cf _ (List.mem_of_getElem? (i := 0) rfl)) (O67.at 0 rfl) hl63
abbrev s_law_whole : Stmt := top 26
theorem sc_law_whole : FnScope ["found"] ["found"] (defScope s_law_whole) := ⟨rfl, rfl, rfl, by decide +kernel, rfl, by decide +kernel, by decide +kernel⟩
def m_law_whole (x_found : Int) : M (Bool) :=
.ok true
def sp_law_whole (mg : Str → Option Value) : Sp := fun vs H Q E => ∃ (F : Hp) (x_found : Int), vs = [V.int x_found] ∧ Pre F [] H ∧
  wp (m_law_whole x_found) (fun r => ∀ (F' H' : Hp), Gr [] F H F' H' → Q (V.bl r) H')
  (fun n => ∀ (C : Addr) (H' : Hp), mg (Str.ofString n) = some (.ref C) → Kp [] H H' → E (.ref C) none H')
set_option maxHeartbeats 20000000 in
theorem ok_law_whole (nb : Nb mg) (D : Df K mg "_law_whole" "_law_whole" s_law_whole ["found"]) : Ca P w K mg base "_law_whole" 1 ["found"] (sp_law_whole mg) := by
  refine Ca.mk' D sc_law_whole (fun vs H Q E h => ?_) (fun q_ f_ cdv A outer s H vs Q E hr h => ?_)
  · obtain ⟨F, _, rfl, _⟩ := h
    rfl
  · obtain ⟨F, x_found, rfl, P0, hk⟩ := h
    have nd := sc_law_whole.nd
    have hu64 := hr.units
    have hu128 := hu128_of hr
    have O := P0.start
    refine ⟨_, (pss_one (ps_ret (pe_and (pe_callB (isiK (K := K) rfl) (by rfl) nb.b_isinstance (by decide +kernel) (pa_cons (pv 0) (pa_cons (pe_bltn (v := .ty "int") (by rfl) nb.b_int (by decide +kernel) rfl) pa_nil))) (pe_one (pe_not (pe_callB (isiK (K := K) rfl) (by rfl) nb.b_isinstance (by decide +kernel) (pa_cons (pv 0) (pa_cons (pe_bltn (v := .ty "bool") (by rfl) nb.b_bool (by decide +kernel) rfl) pa_nil)))))))), ?_⟩
    refine ⟨_, rfl, _, _, _, _, true, rfl, .ty _, (.base (.int _)), kit_ty (by decide +kernel), _, rfl, ?_⟩
    refine iteT ?_
    refine ⟨_, rfl, _, _, _, _, false, rfl, .ty _, (.base (.int _)), kit_ty (by decide +kernel), _, rfl, ?_⟩
    exact hk _ _  O.g 
abbrev s_law_worths : Stmt := top 27
theorem sc_law_worths : FnScope ["script", "many", "cell", "kind", "found", "number", "worth"] ["script", "many"] (defScope s_law_worths) := ⟨rfl, rfl, rfl, by decide +kernel, rfl, by decide +kernel, by decide +kernel⟩
def m_law_worths (x_script : (List Int)) (x_many : Int) : M ((List Int)) :=
m_law_cell_at x_script (3 : Int) >>= fun r1 =>
m_law_cell_at x_script (0 : Int) >>= fun r7 =>
chk (CDivW r7 (2048 : Int)) >>= fun _ =>
chk (0 < (4 : Int)) >>= fun _ =>
if ((r7 / (2048 : Int)) % (4 : Int)) = (1 : Int) then (
chk (CRep ([(0 : Int)]).length x_many) >>= fun _ =>
.ok (repL x_many ([(0 : Int)])))
else (
m_law_numbers r1 x_many (90 : Int) >>= fun r42 =>
loopN (fun (y66 : Int) (st77 : (List Int)) =>
chk (0 < (15 : Int)) >>= fun _ =>
if ((r7 / (2048 : Int)) % (4 : Int)) = (2 : Int) then (
chk (CMulW (y66 - (45 : Int)) ((10 : Int) ^ Int.toNat (28 : Int))) >>= fun _ =>
if ((r7 / (2048 : Int)) % (4 : Int)) = (3 : Int) then (
chk (0 < (6 : Int)) >>= fun _ =>
appL st77 (y66 % (6 : Int)) >>= fun _ =>
.ok (st77 ++ [(y66 % (6 : Int))]))
else (
appL st77 (((y66 - (45 : Int)) * ((10 : Int) ^ Int.toNat (28 : Int))) + y66) >>= fun _ =>
.ok (st77 ++ [(((y66 - (45 : Int)) * ((10 : Int) ^ Int.toNat (28 : Int))) + y66)])))
else (
if ((r7 / (2048 : Int)) % (4 : Int)) = (3 : Int) then (
chk (0 < (6 : Int)) >>= fun _ =>
appL st77 (y66 % (6 : Int)) >>= fun _ =>
.ok (st77 ++ [(y66 % (6 : Int))]))
else (
appL st77 ((y66 % (15 : Int)) - (7 : Int)) >>= fun _ =>
.ok (st77 ++ [((y66 % (15 : Int)) - (7 : Int))])))) r42 ([] : List Int) >>= fun st112 =>
.ok st112)
def sp_law_worths (K : PySem.W.Frag) (mg : Str → Option Value) : Sp := fun vs H Q E => ∃ (F : Hp) (a_script : Addr) (x_script : (List Int)) (x_many : Int), vs = [.ref a_script, V.int x_many] ∧ Pre F [] H ∧ SqL K F a_script (x_script.map V.int) ∧
  wp (m_law_worths x_script x_many) (fun r => ∀ (F' H' : Hp), Gr [] F H F' H' → ∀ (p : Addr) (w : (List V)), H p = none → F' p = none → H' p = some (.lst w) → RL (a := Int) F' w r → Q (.ref p) H')
  (fun n => ∀ (C : Addr) (H' : Hp), mg (Str.ofString n) = some (.ref C) → Kp [] H H' → E (.ref C) none H')
set_option maxHeartbeats 20000000 in
theorem ok_law_worths (nb : Nb mg) (C_law_cell_at : Ca P w K mg base "_law_cell_at" 1 ["script", "k"] (sp_law_cell_at K mg)) (C_law_numbers : Ca P w K mg base "_law_numbers" 1 ["cell", "many", "base"] (sp_law_numbers mg)) (D : Df K mg "_law_worths" "_law_worths" s_law_worths ["script", "many"]) : Ca P w K mg base "_law_worths" 2 ["script", "many"] (sp_law_worths K mg) := by
  obtain ⟨fa_law_cell_at, fd_law_cell_at, G_law_cell_at, M_law_cell_at, K_law_cell_at, B_law_cell_at⟩ := C_law_cell_at.ex
  obtain ⟨fa_law_numbers, fd_law_numbers, G_law_numbers, M_law_numbers, K_law_numbers, B_law_numbers⟩ := C_law_numbers.ex
  refine Ca.mk' D sc_law_worths (fun vs H Q E h => ?_) (fun q_ f_ cdv A outer s H vs Q E hr h => ?_)
  · obtain ⟨F, _, _, _, rfl, _⟩ := h
    rfl
  · obtain ⟨F, a_script, x_script, x_many, rfl, P0, f_script, hk⟩ := h
    have nd := sc_law_worths.nd
    have hu64 := hr.units
    have hu128 := hu128_of hr
    have O := P0.start
    refine ⟨_, (pss_cons (ps_toN (ps_set (i := 2) nd rfl (Or.inl rfl) (pe_call G_law_cell_at (hr.mono (by decide)) rfl M_law_cell_at K_law_cell_at B_law_cell_at .nil (passes_call (takes_of rfl rfl rfl rfl) fun _ _ _ _ h => h) (pa_cons (pv 0) (pa_cons pe_int pa_nil)))))
  (pss_cons (ps_toN (ps_set (i := 3) nd rfl (Or.inl rfl) (pe_op op_mod (pe_op op_fdivW (pe_call G_law_cell_at (hr.mono (by decide)) rfl M_law_cell_at K_law_cell_at B_law_cell_at .nil (passes_call (takes_of rfl rfl rfl rfl) fun _ _ _ _ h => h) (pa_cons (pv 0) (pa_cons pe_int pa_nil))) pe_int) pe_int)))
  (pss_cons (ps_if (pt_cmpR (op_eqT Int hu64) (pv 3) pe_int (nomark _)) (pss_one (ps_ret (pe_op op_rep (pe_lst (pa_cons pe_int pa_nil)) (pv 1)))) pss_nil)
  (pss_cons (ps_toN (ps_set (i := 4) nd rfl (Or.inl rfl) (pe_lst pa_nil)))
  (pss_cons (ps_for (passes_of rfl) rfl (piListK (K := K) rfl (pe_call G_law_numbers (hr.mono (by decide)) rfl M_law_numbers K_law_numbers B_law_numbers .nil (passes_call (takes_of rfl rfl rfl rfl) fun _ _ _ _ h => h) (pa_cons (pv 2) (pa_cons (pv 1) (pa_cons pe_int pa_nil))))) (pg_name (i := 5) nd rfl (Or.inl rfl)) (pss_cons (ps_toN (ps_set (i := 6) nd rfl (Or.inl rfl) (pe_op op_sub (pe_op op_mod (pv 5) pe_int) pe_int)))
  (pss_cons (ps_if (pt_cmpR (op_eqT Int hu64) (pv 3) pe_int (nomark _)) (pss_one (ps_toN (ps_set (i := 6) nd rfl (Or.inl rfl) (pe_op op_add (pe_op op_mulW (pe_op op_sub (pv 5) pe_int) (pe_op op_pow pe_int pe_int)) (pv 5))))) pss_nil)
  (pss_cons (ps_if (pt_cmpR (op_eqT Int hu64) (pv 3) pe_int (nomark _)) (pss_one (ps_toN (ps_set (i := 6) nd rfl (Or.inl rfl) (pe_op op_mod (pv 5) pe_int)))) pss_nil)
  (pss_one (ps_expr (bmK (K := K) rfl (pe_bm PySem.F.plainAttrs_list PySem.F.slot_list_append PySem.F.type_list_append mt_append (pv 4) (pa_cons (pv 6) pa_nil)))))))))
  (pss_one (ps_ret (pv 4)))))))), ?_⟩
    refine ⟨_, rfl, _, _, _, _, rfl, O.pre0, f_script, wp_call hk (fun r1 er2 hk F3 H4 g5 => ?_) (fun n hn C H1 hC kp => hn C H1 hC (O.kp0 kp))⟩
    have O6 := O.call0 g5
    have S_ := g5.f
    have f_script := S_.seq f_script
    refine ⟨[some (V.ref a_script), some (V.int x_many), some (V.int r1), none, none, none, none], rfl, _, rfl, _, _, _, _, rfl, O6.pre0, f_script, wp_call hk (fun r7 er8 hk F9 H10 g11 => ?_) (fun n hn C H1 hC kp => hn C H1 hC (O6.kp0 kp))⟩
    have O12 := O6.call0 g11
    have S_ := g11.f
    have f_script := S_.seq f_script
    obtain ⟨c13, hk⟩ := wp_chk hk
    obtain ⟨c14, hk⟩ := wp_chk hk
    refine ⟨_, _, rfl, rfl, c13, _, _, rfl, rfl, c14, [some (V.ref a_script), some (V.int x_many), some (V.int r1), some (V.int ((r7 / (2048 : Int)) % (4 : Int))), none, none, none], rfl, _, rfl, _, _, R.int, R.int, _, rfl, ?_⟩
    refine iteD (fun q15 => ?_) (fun q15 => ?_)
    · have hk := wp_if hk q15
      refine ⟨(by show 1 ≤ sizeLine; decide), fun p17 hp18 => ?_⟩
      have hl24 : RL (a := Int) F9 ([V.int (0 : Int)]) ([(0 : Int)]) := RL.cons R.int RL.nil
      obtain ⟨F19, O20, S21, h22⟩ := O12.putE hp18 (.lst ([V.int (0 : Int)]))
      have f_script := S21.seq f_script
      have hl24 := hl24.mono S21
      have h23 := R.lst (a := Int) h22 hl24
      obtain ⟨p25, w26, e27, h28, hl29⟩ := R.lst_ h23
      cases e27
      obtain ⟨c30, hk⟩ := wp_chk hk
      refine ⟨_, rfl, _, _, _, rfl, rfl, (O20.s _ _ h28), c30.1, c30.2.1, (by rw [hl29.len]; exact le_line c30.2.2), fun p31 hp32 => ?_⟩
      have hl34 : RL (a := Int) F19 (repL x_many w26) (repL x_many ([(0 : Int)])) := RL.rep hl29 x_many
      have z35 := O20.was hp32
      have O33 := O20.new (o := .lst (repL x_many w26)) hp32
      exact hk _ _  O33.g  _ _ z35 (O33.cf _ (List.mem_of_getElem? (i := 0) rfl)) (O33.at 0 rfl) hl34
    · have hk := wp_el hk q15
      refine ⟨(by show 0 ≤ sizeLine; decide), fun p37 hp38 => ?_⟩
      have hl40 : RL (a := Int) F9 ([]) ([] : List Int) := RL.nil
      have z41 := O12.was hp38
      have O39 := O12.new (o := .lst ([])) hp38
      refine ⟨[some (V.ref a_script), some (V.int x_many), some (V.int r1), some (V.int ((r7 / (2048 : Int)) % (4 : Int))), some (V.ref p37), none, none], rfl, _, rfl, _, rfl, _, _, _, _, rfl, O39.pre0, wp_call hk (fun r42 er43 hk F44 H45 g46 p47 w48 hn49 hf50 h51 hl52 => ?_) (fun n hn C H1 hC kp => hn C H1 hC (O39.kp0 kp))⟩
      have O53 := O39.call0 g46
      have S_ := g46.f
      have f_script := S_.seq f_script
      have hl40 := hl40.mono S_
      have O54 := O39.got O53 rfl hn49 hf50 h51
      have z55 := O39.was hn49
      obtain ⟨F56, O57, S58, h59⟩ := O54.frzE 0 rfl z55
      have f_script := S58.seq f_script
      have hl40 := hl40.mono S58
      have hl52 := hl52.mono S58
      have h60 := R.lst (a := Int) h59 hl52
      obtain ⟨p61, w62, e63, h64, hl65⟩ := R.lst_ h60
      cases e63
      obtain ⟨L67, hL68, hLs69, hLd70⟩ := loopN_L hk
      refine ⟨_, rfl, ⟨_, (SqLF O57.s h64)⟩, ?_⟩
      refine for_list (K := K) (xs := w62) (fun i σ H_ => ∃ (F_ : Hp) (st : (List Int)) (w_0 : (List V)) (t_0 : Option V) (t_1 : Option V), σ = [some (V.ref a_script), some (V.int x_many), some (V.int r1), some (V.int ((r7 / (2048 : Int)) % (4 : Int))), some (V.ref p37), t_0, t_1] ∧ Same F56 F_ ∧ Ow _ F_ [(p37, .lst w_0)] H_ ∧ RL (a := Int) F_ w_0 st ∧ L67 (List.drop i r42) st) ⟨F56, ([] : List Int), [], none, none, rfl, Same.refl _, O57, hl40, hL68⟩ (fun i_ σ_ H_ _ hp_ => ?_) ?_ ?_
      · obtain ⟨_, _, _, _, _, _, hS_, hO_, _⟩ := hp_
        exact SqLF hO_.s (hS_ _ _ h64)
      · rintro i71 x72 sg73 H74 hi75 ⟨F82, st77, w78, t80, t81, rfl, S76, O83, hl79, hL68⟩
        have f_script := S76.seq f_script
        have h60 := h60.mono S76
        have h64 := S76 _ _ h64
        have hl65 := hl65.mono S76
        obtain ⟨y66, e84, r85⟩ := RL.got hl65 hi75
        rw [drop_at e84] at hL68
        have hk := hLs69 _ _ _ hL68
        obtain rfl := R.int_ r85
        obtain ⟨c86, hk⟩ := wp_chk hk
        refine ⟨_, rfl, _, _, rfl, rfl, c86, _, _, rfl, rfl, [some (V.ref a_script), some (V.int x_many), some (V.int r1), some (V.int ((r7 / (2048 : Int)) % (4 : Int))), some (V.ref p37), some (V.int y66), some (V.int ((y66 % (15 : Int)) - (7 : Int)))], rfl, _, rfl, _, _, R.int, R.int, _, rfl, ?_⟩
        refine iteD (fun q87 => ?_) (fun q87 => ?_)
        · have hk := wp_if hk q87
          obtain ⟨c88, hk⟩ := wp_chk hk
          refine ⟨_, rfl, _, _, rfl, rfl, _, _, rfl, rfl, (by decide), _, _, rfl, rfl, c88, _, rfl, _, _, rfl, rfl, [some (V.ref a_script), some (V.int x_many), some (V.int r1), some (V.int ((r7 / (2048 : Int)) % (4 : Int))), some (V.ref p37), some (V.int y66), some (V.int (((y66 - (45 : Int)) * ((10 : Int) ^ Int.toNat (28 : Int))) + y66))], rfl, _, rfl, _, _, R.int, R.int, _, rfl, ?_⟩
          refine iteD (fun q89 => ?_) (fun q89 => ?_)
          · have hk := wp_if hk q89
            obtain ⟨c90, hk⟩ := wp_chk hk
            obtain ⟨c91, hk⟩ := wp_appL hk
            refine ⟨_, rfl, _, _, rfl, rfl, c90, [some (V.ref a_script), some (V.int x_many), some (V.int r1), some (V.int ((r7 / (2048 : Int)) % (4 : Int))), some (V.ref p37), some (V.int y66), some (V.int (y66 % (6 : Int)))], rfl, _, rfl, (.inl ⟨rfl, _, SqL.of (O83.at 0 rfl)⟩), _, rfl, _, _, _, rfl, rfl, (O83.at 0 rfl), (by rw [hl79.len]; exact c91), ?_⟩
            have O93 := O83.set 0 (.lst (w78 ++ [V.int (y66 % (6 : Int))])) rfl
            have hl94 : RL (a := Int) F82 (w78 ++ [V.int (y66 % (6 : Int))]) (st77 ++ [(y66 % (6 : Int))]) := RL.snoc hl79 R.int
            exact ⟨F82, (st77 ++ [(y66 % (6 : Int))]), (w78 ++ [V.int (y66 % (6 : Int))]), some (V.int y66), some (V.int (y66 % (6 : Int))), rfl, S76, O93, hl94, hk⟩
          · have hk := wp_el hk q89
            obtain ⟨c95, hk⟩ := wp_appL hk
            refine ⟨_, rfl, (.inl ⟨rfl, _, SqL.of (O83.at 0 rfl)⟩), _, rfl, _, _, _, rfl, rfl, (O83.at 0 rfl), (by rw [hl79.len]; exact c95), ?_⟩
            have O97 := O83.set 0 (.lst (w78 ++ [V.int (((y66 - (45 : Int)) * ((10 : Int) ^ Int.toNat (28 : Int))) + y66)])) rfl
            have hl98 : RL (a := Int) F82 (w78 ++ [V.int (((y66 - (45 : Int)) * ((10 : Int) ^ Int.toNat (28 : Int))) + y66)]) (st77 ++ [(((y66 - (45 : Int)) * ((10 : Int) ^ Int.toNat (28 : Int))) + y66)]) := RL.snoc hl79 R.int
            exact ⟨F82, (st77 ++ [(((y66 - (45 : Int)) * ((10 : Int) ^ Int.toNat (28 : Int))) + y66)]), (w78 ++ [V.int (((y66 - (45 : Int)) * ((10 : Int) ^ Int.toNat (28 : Int))) + y66)]), some (V.int y66), some (V.int (((y66 - (45 : Int)) * ((10 : Int) ^ Int.toNat (28 : Int))) + y66)), rfl, S76, O97, hl98, hk⟩
        · have hk := wp_el hk q87
          refine ⟨_, rfl, _, _, R.int, R.int, _, rfl, ?_⟩
          refine iteD (fun q99 => ?_) (fun q99 => ?_)
          · have hk := wp_if hk q99
            obtain ⟨c100, hk⟩ := wp_chk hk
            obtain ⟨c101, hk⟩ := wp_appL hk
            refine ⟨_, rfl, _, _, rfl, rfl, c100, [some (V.ref a_script), some (V.int x_many), some (V.int r1), some (V.int ((r7 / (2048 : Int)) % (4 : Int))), some (V.ref p37), some (V.int y66), some (V.int (y66 % (6 : Int)))], rfl, _, rfl, (.inl ⟨rfl, _, SqL.of (O83.at 0 rfl)⟩), _, rfl, _, _, _, rfl, rfl, (O83.at 0 rfl), (by rw [hl79.len]; exact c101), ?_⟩
            have O103 := O83.set 0 (.lst (w78 ++ [V.int (y66 % (6 : Int))])) rfl
            have hl104 : RL (a := Int) F82 (w78 ++ [V.int (y66 % (6 : Int))]) (st77 ++ [(y66 % (6 : Int))]) := RL.snoc hl79 R.int
            exact ⟨F82, (st77 ++ [(y66 % (6 : Int))]), (w78 ++ [V.int (y66 % (6 : Int))]), some (V.int y66), some (V.int (y66 % (6 : Int))), rfl, S76, O103, hl104, hk⟩
          · have hk := wp_el hk q99
            obtain ⟨c105, hk⟩ := wp_appL hk
            refine ⟨_, rfl, (.inl ⟨rfl, _, SqL.of (O83.at 0 rfl)⟩), _, rfl, _, _, _, rfl, rfl, (O83.at 0 rfl), (by rw [hl79.len]; exact c105), ?_⟩
            have O107 := O83.set 0 (.lst (w78 ++ [V.int ((y66 % (15 : Int)) - (7 : Int))])) rfl
            have hl108 : RL (a := Int) F82 (w78 ++ [V.int ((y66 % (15 : Int)) - (7 : Int))]) (st77 ++ [((y66 % (15 : Int)) - (7 : Int))]) := RL.snoc hl79 R.int
            exact ⟨F82, (st77 ++ [((y66 % (15 : Int)) - (7 : Int))]), (w78 ++ [V.int ((y66 % (15 : Int)) - (7 : Int))]), some (V.int y66), some (V.int ((y66 % (15 : Int)) - (7 : Int))), rfl, S76, O107, hl108, hk⟩
      rintro sg109 H110 ⟨F118, st112, w114, t116, t117, rfl, S111, O119, hl115, hL113⟩
      rw [drop_end hl65.len] at hL113
      have hk := hLd70 _ hL113
      have f_script := S111.seq f_script
      have h60 := h60.mono S111
      have h64 := S111 _ _ h64
      have hl65 := hl65.mono S111
      refine ⟨_, rfl, ?_⟩
      exact hk _ _  O119.g  _ _ z41 (O119.cf _ (List.mem_of_getElem? (i := 0) rfl)) (O119.at 0 rfl) hl115
abbrev s_law_ties : Stmt := top 28
theorem sc_law_ties : FnScope ["script", "many", "least", "shape", "order", "left", "names", "kind", "ties", "k", "number", "length", "other"] ["script", "many", "least"] (defScope s_law_ties) := ⟨rfl, rfl, rfl, by decide +kernel, rfl, by decide +kernel, by decide +kernel⟩
def m_law_ties (x_script : (List Int)) (x_many : Int) (x_least : Int) : M ((List (T3 Int Int Int))) :=
m_law_cell_at x_script (1 : Int) >>= fun r1 =>
m_law_numbers r1 x_many (120 : Int) >>= fun r7 =>
m_law_cell_at x_script (2 : Int) >>= fun r26 =>
m_law_numbers r26 x_many (120 : Int) >>= fun r32 =>
chk (okR x_many) >>= fun _ =>
chk (okR x_many) >>= fun _ =>
compS (fun (y58 : Int) (st76 : (List Int)) =>
opt (atI r32 y58) >>= fun y87 =>
chk (0 < (st76.length : Int)) >>= fun _ =>
popI st76 (y87 % (st76.length : Int)) >>= fun t102 =>
.ok (some t102.1, t102.2)) (rangeL 0 x_many) (rangeL 0 x_many) >>= fun q118 =>
m_law_cell_at x_script (0 : Int) >>= fun r124 =>
chk (CDivW r124 (512 : Int)) >>= fun _ =>
chk (0 < (4 : Int)) >>= fun _ =>
m_law_cell_at x_script (4 : Int) >>= fun r138 =>
m_law_numbers r138 x_many (90 : Int) >>= fun r144 =>
loopN (fun (y168 : (Int × Int)) (st179 : (List (T3 Int Int Int))) =>
chk (0 < (9 : Int)) >>= fun _ =>
chk (0 < (3 : Int)) >>= fun _ =>
chk (CMulW y168.2 ((10 : Int) ^ Int.toNat (28 : Int))) >>= fun _ =>
opt (atI ([((y168.2 % (9 : Int)) + x_least), (y168.2 % (3 : Int)), ((y168.2 * ((10 : Int) ^ Int.toNat (28 : Int))) + (1 : Int)), (1 : Int)]) ((r124 / (512 : Int)) % (4 : Int))) >>= fun y226 =>
if (0 : Int) < y168.1 then (
opt (atI r7 y168.1) >>= fun y237 =>
chk (0 < y168.1) >>= fun _ =>
opt (atI q118.1 (y237 % y168.1)) >>= fun y248 =>
opt (atI r7 y168.1) >>= fun y258 =>
chk (CDivW y258 (40 : Int)) >>= fun _ =>
if (y258 / (40 : Int)) = (1 : Int) then (
opt (atI q118.1 (y168.1 - (1 : Int))) >>= fun y270 =>
opt (atI q118.1 y168.1) >>= fun y280 =>
opt (atI q118.1 y168.1) >>= fun y290 =>
appL st179 (T3.mk (if y270 < y280 then y270 else y280) (if y270 > y290 then y270 else y290) y226) >>= fun _ =>
.ok (st179 ++ [(T3.mk (if y270 < y280 then y270 else y280) (if y270 > y290 then y270 else y290) y226)]))
else (
opt (atI q118.1 y168.1) >>= fun y311 =>
opt (atI q118.1 y168.1) >>= fun y321 =>
appL st179 (T3.mk (if y248 < y311 then y248 else y311) (if y248 > y321 then y248 else y321) y226) >>= fun _ =>
.ok (st179 ++ [(T3.mk (if y248 < y311 then y248 else y311) (if y248 > y321 then y248 else y321) y226)])))
else (
.ok st179)) (enumL r144) ([] : List (T3 Int Int Int)) >>= fun st340 =>
.ok (sortT st340)
def sp_law_ties (K : PySem.W.Frag) (mg : Str → Option Value) : Sp := fun vs H Q E => ∃ (F : Hp) (a_script : Addr) (x_script : (List Int)) (x_many : Int) (x_least : Int), vs = [.ref a_script, V.int x_many, V.int x_least] ∧ Pre F [] H ∧ SqL K F a_script (x_script.map V.int) ∧
  wp (m_law_ties x_script x_many x_least) (fun r => ∀ (F' H' : Hp), Gr [] F H F' H' → ∀ (p : Addr) (w : (List V)), H p = none → F' p = none → H' p = some (.lst w) → RL (a := (T3 Int Int Int)) F' w r → Q (.ref p) H')
  (fun n => ∀ (C : Addr) (H' : Hp), mg (Str.ofString n) = some (.ref C) → Kp [] H H' → E (.ref C) none H')
set_option maxHeartbeats 20000000 in
theorem ok_law_ties (nb : Nb mg) (C_law_cell_at : Ca P w K mg base "_law_cell_at" 1 ["script", "k"] (sp_law_cell_at K mg)) (C_law_numbers : Ca P w K mg base "_law_numbers" 1 ["cell", "many", "base"] (sp_law_numbers mg)) (D : Df K mg "_law_ties" "_law_ties" s_law_ties ["script", "many", "least"]) : Ca P w K mg base "_law_ties" 2 ["script", "many", "least"] (sp_law_ties K mg) := by
  obtain ⟨fa_law_cell_at, fd_law_cell_at, G_law_cell_at, M_law_cell_at, K_law_cell_at, B_law_cell_at⟩ := C_law_cell_at.ex
  obtain ⟨fa_law_numbers, fd_law_numbers, G_law_numbers, M_law_numbers, K_law_numbers, B_law_numbers⟩ := C_law_numbers.ex
  refine Ca.mk' D sc_law_ties (fun vs H Q E h => ?_) (fun q_ f_ cdv A outer s H vs Q E hr h => ?_)
  · obtain ⟨F, _, _, _, _, rfl, _⟩ := h
    rfl
  · obtain ⟨F, a_script, x_script, x_many, x_least, rfl, P0, f_script, hk⟩ := h
    have nd := sc_law_ties.nd
    have hu64 := hr.units
    have hu128 := hu128_of hr
    have O := P0.start
    refine ⟨_, (pss_cons (ps_toN (ps_set (i := 3) nd rfl (Or.inl rfl) (pe_call G_law_numbers (hr.mono (by decide)) rfl M_law_numbers K_law_numbers B_law_numbers .nil (passes_call (takes_of rfl rfl rfl rfl) fun _ _ _ _ h => h) (pa_cons (pe_call G_law_cell_at (hr.mono (by decide)) rfl M_law_cell_at K_law_cell_at B_law_cell_at .nil (passes_call (takes_of rfl rfl rfl rfl) fun _ _ _ _ h => h) (pa_cons (pv 0) (pa_cons pe_int pa_nil))) (pa_cons (pv 1) (pa_cons pe_int pa_nil))))))
  (pss_cons (ps_toN (ps_set (i := 4) nd rfl (Or.inr rfl) (pe_call G_law_numbers (hr.mono (by decide)) rfl M_law_numbers K_law_numbers B_law_numbers .nil (passes_call (takes_of rfl rfl rfl rfl) fun _ _ _ _ h => h) (pa_cons (pe_call G_law_cell_at (hr.mono (by decide)) rfl M_law_cell_at K_law_cell_at B_law_cell_at .nil (passes_call (takes_of rfl rfl rfl rfl) fun _ _ _ _ h => h) (pa_cons (pv 0) (pa_cons pe_int pa_nil))) (pa_cons (pv 1) (pa_cons pe_int pa_nil))))))
  (pss_cons (ps_toN (ps_set (i := 5) nd rfl (Or.inr rfl) (pe_listRg rfl (by rfl) nb.b_list (prg_1 (by rfl) nb.b_range (pv 1)))))
  (pss_cons (ps_toN (ps_setLc (i := 6) (own := [("k", 9)]) (g := gName 9) (tt := _) rfl nd rfl rfl (sw_true rfl rfl rfl (by decide +kernel)) (pi_range1 rfl nb.b_range (pa_cons (pv 1) pa_nil)) (blkOk_by (own := [("k", 9)]) (N := ["script", "many", "least", "shape", "order", "left", "names", "kind", "ties", "k", "number", "length", "other"]) (sc := defScope s_law_ties) (by decide +kernel)) (fun _ _ _ _ _ => (pg_name (i := 9) nd rfl (Or.inl rfl))) (fun _ _ _ _ _ => pts_nil) (fun _ _ _ _ _ => (bmK (K := K) rfl (pe_bm PySem.F.plainAttrs_list PySem.F.slot_list_pop PySem.F.type_list_pop mt_popAt (pv 5) (pa_cons (pe_op op_mod (pe_ix (ixListK (K := K) rfl) (pv 4) (pv 9) (fun _ _ => rfl)) (pe_callB call_lenT (by rfl) nb.b_len PySem.boot_len (pa_cons (pv 5) pa_nil))) pa_nil))))))
  (pss_cons (ps_toN (ps_set (i := 7) nd rfl (Or.inl rfl) (pe_op op_mod (pe_op op_fdivW (pe_call G_law_cell_at (hr.mono (by decide)) rfl M_law_cell_at K_law_cell_at B_law_cell_at .nil (passes_call (takes_of rfl rfl rfl rfl) fun _ _ _ _ h => h) (pa_cons (pv 0) (pa_cons pe_int pa_nil))) pe_int) pe_int)))
  (pss_cons (ps_toN (ps_set (i := 8) nd rfl (Or.inl rfl) (pe_lst pa_nil)))
  (pss_cons (ps_for (passes_of rfl) rfl (piEnumK (K := K) rfl (pi_enum rfl nb.b_enumerate (pa_cons (pe_call G_law_numbers (hr.mono (by decide)) rfl M_law_numbers K_law_numbers B_law_numbers .nil (passes_call (takes_of rfl rfl rfl rfl) fun _ _ _ _ h => h) (pa_cons (pe_call G_law_cell_at (hr.mono (by decide)) rfl M_law_cell_at K_law_cell_at B_law_cell_at .nil (passes_call (takes_of rfl rfl rfl rfl) fun _ _ _ _ h => h) (pa_cons (pv 0) (pa_cons pe_int pa_nil))) (pa_cons (pv 1) (pa_cons pe_int pa_nil)))) pa_nil))) (pg_tup rfl (pgs_cons (pg_name (i := 9) nd rfl (Or.inl rfl)) (pgs_cons (pg_name (i := 10) nd rfl (Or.inl rfl)) pgs_nil))) (pss_cons (ps_toN (ps_set (i := 11) nd rfl (Or.inl rfl) (pe_ix (ixListK (K := K) rfl) (pe_lst (pa_cons (pe_op op_add (pe_op op_mod (pv 10) pe_int) (pv 2)) (pa_cons (pe_op op_mod (pv 10) pe_int) (pa_cons (pe_op op_add (pe_op op_mulW (pv 10) (pe_op op_pow pe_int pe_int)) pe_int) (pa_cons pe_int pa_nil))))) (pv 7) (fun _ _ => rfl))))
  (pss_one (ps_if (pt_cmpR op_gt (pv 9) pe_int (nomark _)) (pss_cons (ps_toN (ps_set (i := 12) nd rfl (Or.inl rfl) (pe_ix (ixListK (K := K) rfl) (pv 6) (pe_op op_mod (pe_ix (ixListK (K := K) rfl) (pv 3) (pv 9) (fun _ _ => rfl)) (pv 9)) (fun _ _ => rfl))))
  (pss_cons (ps_if (pt_cmpR (op_eqT Int hu64) (pe_op op_fdivW (pe_ix (ixListK (K := K) rfl) (pv 3) (pv 9) (fun _ _ => rfl)) pe_int) pe_int (nomark _)) (pss_one (ps_toN (ps_set (i := 12) nd rfl (Or.inl rfl) (pe_ix (ixListK (K := K) rfl) (pv 6) (pe_op op_sub (pv 9) pe_int) (fun _ _ => rfl))))) pss_nil)
  (pss_one (ps_expr (bmK (K := K) rfl (pe_bm PySem.F.plainAttrs_list PySem.F.slot_list_append PySem.F.type_list_append mt_append (pv 8) (pa_cons (pe_tup (pa_cons (pe_callB (call_min2 rfl) (by rfl) nb.b_min (by decide +kernel) (pa_cons (pe_ix (ixListK (K := K) rfl) (pv 6) (pv 9) (fun _ _ => rfl)) (pa_cons (pv 12) pa_nil))) (pa_cons (pe_callB (call_max2 rfl) (by rfl) nb.b_max (by decide +kernel) (pa_cons (pe_ix (ixListK (K := K) rfl) (pv 6) (pv 9) (fun _ _ => rfl)) (pa_cons (pv 12) pa_nil))) (pa_cons (pv 11) pa_nil)))) pa_nil))))))) pss_nil))))
  (pss_one (ps_ret (pe_callB (cr_sortedT (T3 Int Int Int) hu128) (by rfl) nb.b_sorted (by decide +kernel) (pa_cons (pv 8) pa_nil))))))))))), ?_⟩
    refine ⟨_, rfl, _, _, _, _, rfl, O.pre0, f_script, wp_call hk (fun r1 er2 hk F3 H4 g5 => ?_) (fun n hn C H1 hC kp => hn C H1 hC (O.kp0 kp))⟩
    have O6 := O.call0 g5
    have S_ := g5.f
    have f_script := S_.seq f_script
    refine ⟨_, rfl, _, _, _, _, rfl, O6.pre0, wp_call hk (fun r7 er8 hk F9 H10 g11 p12 w13 hn14 hf15 h16 hl17 => ?_) (fun n hn C H1 hC kp => hn C H1 hC (O6.kp0 kp))⟩
    have O18 := O6.call0 g11
    have S_ := g11.f
    have f_script := S_.seq f_script
    have O19 := O6.got O18 rfl hn14 hf15 h16
    have z20 := O6.was hn14
    obtain ⟨F21, O22, S23, h24⟩ := O19.frzE 0 rfl z20
    have f_script := S23.seq f_script
    have hl17 := hl17.mono S23
    have h25 := R.lst (a := Int) h24 hl17
    refine ⟨[some (V.ref a_script), some (V.int x_many), some (V.int x_least), some (V.ref p12), none, none, none, none, none, none, none, none, none], rfl, _, rfl, _, _, _, _, rfl, O22.pre0, f_script, wp_call hk (fun r26 er27 hk F28 H29 g30 => ?_) (fun n hn C H1 hC kp => hn C H1 hC (O22.kp0 kp))⟩
    have O31 := O22.call0 g30
    have S_ := g30.f
    have f_script := S_.seq f_script
    have h25 := h25.mono S_
    refine ⟨_, rfl, _, _, _, _, rfl, O31.pre0, wp_call hk (fun r32 er33 hk F34 H35 g36 p37 w38 hn39 hf40 h41 hl42 => ?_) (fun n hn C H1 hC kp => hn C H1 hC (O31.kp0 kp))⟩
    have O43 := O31.call0 g36
    have S_ := g36.f
    have f_script := S_.seq f_script
    have h25 := h25.mono S_
    have O44 := O31.got O43 rfl hn39 hf40 h41
    have z45 := O31.was hn39
    obtain ⟨F46, O47, S48, h49⟩ := O44.frzE 0 rfl z45
    have f_script := S48.seq f_script
    have h25 := h25.mono S48
    have hl42 := hl42.mono S48
    have h50 := R.lst (a := Int) h49 hl42
    obtain ⟨c52, hk⟩ := wp_chk hk
    refine ⟨[some (V.ref a_script), some (V.int x_many), some (V.int x_least), some (V.ref p12), some (V.ref p37), none, none, none, none, none, none, none, none], rfl, _, rfl, _, rfl, c52.rg1, fun p53 hp54 => ?_⟩
    have hl56 : RL (a := Int) F46 (rgV 0 x_many) (rangeL 0 x_many) := RL.rg
    have z57 := O47.was hp54
    have O55 := O47.new (o := .lst (rgV 0 x_many)) hp54
    obtain ⟨c59, hk⟩ := wp_chk hk
    obtain ⟨c64, L60, hL61, hLs62, hLd63⟩ := compS_L hk
    refine ⟨[some (V.ref a_script), some (V.int x_many), some (V.int x_least), some (V.ref p12), some (V.ref p37), some (V.ref p53), none, none, none, none, none, none, none], rfl, _, rfl, _, rfl, c59.lo, c59.hi, fun p65 hp66 => ?_⟩
    have z105 := O55.was hp66
    refine lc_range (lo := 0) (n := (x_many).toNat) (fun i H => ∃ (F_ : Hp) (st : (List Int)) (acc : List Int) (wa : List V) (w_0 : (List V)), Same F46 F_ ∧ Ow _ F_ [(p65, .lst wa), (p53, .lst w_0)] H ∧ RL F_ wa acc ∧ RL (a := Int) F_ w_0 st ∧ wa.length ≤ i ∧ L60 (List.drop i (rangeL 0 x_many)) acc st) ⟨F46, (rangeL 0 x_many), [], [], (rgV 0 x_many), Same.refl _, O55.new hp66, RL.nil, hl56, Nat.zero_le _, hL61⟩ ?_ ?_
    · rintro i67 H69 hi70 ⟨F75, st76, acc72, wa73, w78, S77, O81, hl80, hl79, la74, hL61⟩
      have f_script := S77.seq f_script
      have h25 := h25.mono S77
      have h50 := h50.mono S77
      rw [rangeL_get0 hi70] at hL61
      have hk := hLs62 _ _ _ _ hL61
      obtain ⟨y58, he_⟩ : ∃ z_, z_ = 0 + (i67 : Int) := ⟨_, rfl⟩
      try rw [← he_] at hk
      rw [← he_]
      refine ⟨rfl, ?_⟩
      obtain ⟨p82, w83, e84, h85, hl86⟩ := R.lst_ h50
      cases e84
      obtain ⟨y87, e88, hk⟩ := wp_opt hk
      obtain ⟨w89, e90, r91⟩ := hl86.atI e88
      obtain rfl := R.int_ r91
      obtain ⟨c92, hk⟩ := wp_chk hk
      obtain ⟨j93, y94, e95, c96, c97, e98, hk⟩ := wp_popI hk
      obtain ⟨w99, e100, r101⟩ := hl79.get e98
      refine ⟨_, rfl, (.inl ⟨rfl, _, SqL.of (O81.at 1 rfl)⟩), _, rfl, _, rfl, _, _, _, _, rfl, rfl, (SqLF O81.s h85), e90, _, rfl, _, _, _, rfl, (.inl (O81.at 1 rfl)), hl79.len, _, _, rfl, rfl, c92, _, _, _, _, _, rfl, rfl, (O81.at 1 rfl), c96, c97, (by rw [hl79.len]; exact e95), e100, ?_⟩
      obtain rfl := R.int_ r101
      have O103 := O81.set 1 (.lst (w78.eraseIdx j93)) rfl
      have hl104 : RL (a := Int) F75 (w78.eraseIdx j93) (st76.eraseIdx j93) := RL.erase j93 hl79
      refine ⟨_, (O103.at 0 rfl), (comp_lenR la74 hi70 (by rw [Int.sub_zero]) c64), ?_⟩
      exact ⟨F75, st76.eraseIdx j93, acc72 ++ [y94], wa73 ++ [V.int y94], (w78.eraseIdx j93), S77, O103.set 0 (.lst (wa73 ++ [V.int y94])) rfl, RL.snoc hl80 R.int, hl104, by rw [List.length_append]; exact Nat.succ_le_succ la74, hk⟩
    rintro H106 ⟨F107, st108, acc109, wa110, w116, S111, O112, hl113, hl117, la114, hL115⟩
    rw [rangeL_end0] at hL115
    have hk := hLd63 _ _ hL115
    have f_script := S111.seq f_script
    have h25 := h25.mono S111
    have h50 := h50.mono S111
    obtain ⟨F119, O120, S121, h122⟩ := O112.frzE 0 rfl z105
    have f_script := S121.seq f_script
    have h25 := h25.mono S121
    have h50 := h50.mono S121
    have hl117 := hl117.mono S121
    have hl113 := hl113.mono S121
    have h123 := R.lst (a := Int) h122 hl113
    refine ⟨[some (V.ref a_script), some (V.int x_many), some (V.int x_least), some (V.ref p12), some (V.ref p37), some (V.ref p53), some (V.ref p65), none, none, none, none, none, none], rfl, _, rfl, _, _, _, _, rfl, O120.pre0, f_script, wp_call hk (fun r124 er125 hk F126 H127 g128 => ?_) (fun n hn C H1 hC kp => hn C H1 hC (O120.kp0 kp))⟩
    have O129 := O120.call0 g128
    have S_ := g128.f
    have f_script := S_.seq f_script
    have h25 := h25.mono S_
    have h50 := h50.mono S_
    have hl117 := hl117.mono S_
    have h123 := h123.mono S_
    obtain ⟨c130, hk⟩ := wp_chk hk
    obtain ⟨c131, hk⟩ := wp_chk hk
    refine ⟨_, _, rfl, rfl, c130, _, _, rfl, rfl, c131, [some (V.ref a_script), some (V.int x_many), some (V.int x_least), some (V.ref p12), some (V.ref p37), some (V.ref p53), some (V.ref p65), some (V.int ((r124 / (512 : Int)) % (4 : Int))), none, none, none, none, none], rfl, (by show 0 ≤ sizeLine; decide), fun p133 hp134 => ?_⟩
    have hl136 : RL (a := (T3 Int Int Int)) F126 ([]) ([] : List (T3 Int Int Int)) := RL.nil
    have z137 := O129.was hp134
    have O135 := O129.new (o := .lst ([])) hp134
    refine ⟨[some (V.ref a_script), some (V.int x_many), some (V.int x_least), some (V.ref p12), some (V.ref p37), some (V.ref p53), some (V.ref p65), some (V.int ((r124 / (512 : Int)) % (4 : Int))), some (V.ref p133), none, none, none, none], rfl, _, rfl, _, _, _, _, rfl, O135.pre0, f_script, wp_call hk (fun r138 er139 hk F140 H141 g142 => ?_) (fun n hn C H1 hC kp => hn C H1 hC (O135.kp0 kp))⟩
    have O143 := O135.call0 g142
    have S_ := g142.f
    have f_script := S_.seq f_script
    have h25 := h25.mono S_
    have h50 := h50.mono S_
    have hl117 := hl117.mono S_
    have h123 := h123.mono S_
    have hl136 := hl136.mono S_
    refine ⟨_, rfl, _, _, _, _, rfl, O143.pre0, wp_call hk (fun r144 er145 hk F146 H147 g148 p149 w150 hn151 hf152 h153 hl154 => ?_) (fun n hn C H1 hC kp => hn C H1 hC (O143.kp0 kp))⟩
    have O155 := O143.call0 g148
    have S_ := g148.f
    have f_script := S_.seq f_script
    have h25 := h25.mono S_
    have h50 := h50.mono S_
    have hl117 := hl117.mono S_
    have h123 := h123.mono S_
    have hl136 := hl136.mono S_
    have O156 := O143.got O155 rfl hn151 hf152 h153
    have z157 := O143.was hn151
    obtain ⟨F158, O159, S160, h161⟩ := O156.frzE 0 rfl z157
    have f_script := S160.seq f_script
    have h25 := h25.mono S160
    have h50 := h50.mono S160
    have hl117 := hl117.mono S160
    have h123 := h123.mono S160
    have hl136 := hl136.mono S160
    have hl154 := hl154.mono S160
    have h162 := R.lst (a := Int) h161 hl154
    obtain ⟨p163, w164, e165, h166, hl167⟩ := R.lst_ h162
    cases e165
    obtain ⟨L169, hL170, hLs171, hLd172⟩ := loopN_L hk
    refine ⟨_, _, rfl, (SqLF O159.s h166), ?_⟩
    refine for_it (walk_enum (K := K) (xs := w164)) (fun i σ H_ => ∃ (F_ : Hp) (st : (List (T3 Int Int Int))) (w_0 : (List V)) (t_0 : Option V) (t_1 : Option V) (t_2 : Option V) (t_3 : Option V), σ = [some (V.ref a_script), some (V.int x_many), some (V.int x_least), some (V.ref p12), some (V.ref p37), some (V.ref p53), some (V.ref p65), some (V.int ((r124 / (512 : Int)) % (4 : Int))), some (V.ref p133), t_0, t_1, t_2, t_3] ∧ Same F158 F_ ∧ Ow _ F_ [(p133, .lst w_0), (p53, .lst w116)] H_ ∧ RL (a := (T3 Int Int Int)) F_ w_0 st ∧ L169 (List.drop i (enumL r144)) st) ⟨F158, ([] : List (T3 Int Int Int)), [], none, none, none, none, rfl, Same.refl _, O159, hl136, hL170⟩ (fun i_ σ_ H_ _ hp_ => ?_) ?_ ?_
    · obtain ⟨_, _, _, _, _, _, _, _, hS_, hO_, _⟩ := hp_
      exact SqLF hO_.s (hS_ _ _ h166)
    · rintro i173 _ sg175 H176 _ hi177 ⟨F186, st179, w180, t182, t183, t184, t185, rfl, S178, O187, hl181, hL170⟩ ⟨T188, x189, y190, rfl, hT191, rfl, hx192, hy193⟩
      have f_script := S178.seq f_script
      have h25 := h25.mono S178
      have h50 := h50.mono S178
      have hl117 := hl117.mono S178
      have h123 := h123.mono S178
      have h162 := h162.mono S178
      have h166 := S178 _ _ h166
      have hl167 := hl167.mono S178
      cases hx192
      obtain ⟨y194, e195, r196⟩ := RL.got hl167 hy193
      rw [enumL_get e195] at hL170
      have hk := hLs171 _ _ _ hL170
      obtain ⟨F197, O198, S199, h200⟩ := O187.putE hT191 (.tup [V.int (i173 : Int), y190])
      have f_script := S199.seq f_script
      have h25 := h25.mono S199
      have h50 := h50.mono S199
      have hl117 := hl117.mono S199
      have h123 := h123.mono S199
      have h162 := h162.mono S199
      have h166 := S199 _ _ h166
      have hl167 := hl167.mono S199
      have hl181 := hl181.mono S199
      have S178 := S178.trans S199
      have r196 := r196.mono S199
      obtain ⟨y168, he202⟩ : ∃ z_, z_ = ((i173 : Int), y194) := ⟨_, rfl⟩
      try rw [← he202] at hk
      have h201 : R (a := (Int × Int)) F197 (.ref T188) y168 := by rw [he202]; exact R.t2 h200 R.int r196
      obtain ⟨p203, v206, v207, e204, h205, r208, r209⟩ := R.t2_ h201
      cases e204
      obtain rfl := R.int_ r208
      obtain rfl := R.int_ r209
      obtain ⟨c210, hk⟩ := wp_chk hk
      obtain ⟨c211, hk⟩ := wp_chk hk
      obtain ⟨c212, hk⟩ := wp_chk hk
      refine ⟨_, _, rfl, (SqTF O198.s h205), rfl, _, _, rfl, _, _, rfl, rfl, _, rfl, _, _, rfl, rfl, c210, _, rfl, _, _, rfl, rfl, _, rfl, _, _, rfl, rfl, c211, _, rfl, _, _, rfl, rfl, (by decide), _, _, rfl, rfl, c212, _, _, rfl, rfl, (by show 4 ≤ sizeLine; decide), fun p213 hp214 => ?_⟩
      have hl220 : RL (a := Int) F197 ([V.int ((y168.2 % (9 : Int)) + x_least), V.int (y168.2 % (3 : Int)), V.int ((y168.2 * ((10 : Int) ^ Int.toNat (28 : Int))) + (1 : Int)), V.int (1 : Int)]) ([((y168.2 % (9 : Int)) + x_least), (y168.2 % (3 : Int)), ((y168.2 * ((10 : Int) ^ Int.toNat (28 : Int))) + (1 : Int)), (1 : Int)]) := RL.cons R.int (RL.cons R.int (RL.cons R.int (RL.cons R.int RL.nil)))
      obtain ⟨F215, O216, S217, h218⟩ := O198.putE hp214 (.lst ([V.int ((y168.2 % (9 : Int)) + x_least), V.int (y168.2 % (3 : Int)), V.int ((y168.2 * ((10 : Int) ^ Int.toNat (28 : Int))) + (1 : Int)), V.int (1 : Int)]))
      have f_script := S217.seq f_script
      have h25 := h25.mono S217
      have h50 := h50.mono S217
      have hl117 := hl117.mono S217
      have h123 := h123.mono S217
      have h162 := h162.mono S217
      have h166 := S217 _ _ h166
      have hl167 := hl167.mono S217
      have hl181 := hl181.mono S217
      have S178 := S178.trans S217
      have r196 := r196.mono S217
      have h201 := h201.mono S217
      have h205 := S217 _ _ h205
      have hl220 := hl220.mono S217
      have h219 := R.lst (a := Int) h218 hl220
      obtain ⟨p221, w222, e223, h224, hl225⟩ := R.lst_ h219
      cases e223
      obtain ⟨y226, e227, hk⟩ := wp_opt hk
      obtain ⟨w228, e229, r230⟩ := hl225.atI e227
      obtain rfl := R.int_ r230
      refine ⟨_, rfl, _, _, _, _, rfl, rfl, (SqLF O216.s h224), e229, [some (V.ref a_script), some (V.int x_many), some (V.int x_least), some (V.ref p12), some (V.ref p37), some (V.ref p53), some (V.ref p65), some (V.int ((r124 / (512 : Int)) % (4 : Int))), some (V.ref p133), some (V.int y168.1), some (V.int y168.2), some (V.int y226), t185], rfl, _, rfl, _, _, rfl, rfl, _, rfl, ?_⟩
      refine iteD (fun q231 => ?_) (fun q231 => ?_)
      · have hk := wp_if hk q231
        obtain ⟨p232, w233, e234, h235, hl236⟩ := R.lst_ h25
        cases e234
        obtain ⟨y237, e238, hk⟩ := wp_opt hk
        obtain ⟨w239, e240, r241⟩ := hl236.atI e238
        obtain rfl := R.int_ r241
        obtain ⟨c242, hk⟩ := wp_chk hk
        obtain ⟨p243, w244, e245, h246, hl247⟩ := R.lst_ h123
        cases e245
        obtain ⟨y248, e249, hk⟩ := wp_opt hk
        obtain ⟨w250, e251, r252⟩ := hl247.atI e249
        obtain rfl := R.int_ r252
        obtain ⟨p253, w254, e255, h256, hl257⟩ := R.lst_ h25
        cases e255
        obtain ⟨y258, e259, hk⟩ := wp_opt hk
        obtain ⟨w260, e261, r262⟩ := hl257.atI e259
        obtain rfl := R.int_ r262
        obtain ⟨c263, hk⟩ := wp_chk hk
        refine ⟨_, rfl, _, rfl, _, rfl, _, _, _, _, rfl, rfl, (SqLF O216.s h235), e240, _, rfl, _, _, rfl, rfl, c242, _, _, _, _, rfl, rfl, (SqLF O216.s h246), e251, [some (V.ref a_script), some (V.int x_many), some (V.int x_least), some (V.ref p12), some (V.ref p37), some (V.ref p53), some (V.ref p65), some (V.int ((r124 / (512 : Int)) % (4 : Int))), some (V.ref p133), some (V.int y168.1), some (V.int y168.2), some (V.int y226), some (V.int y248)], rfl, _, rfl, _, rfl, _, _, _, _, rfl, rfl, (SqLF O216.s h256), e261, _, _, rfl, rfl, c263, _, _, R.int, R.int, _, rfl, ?_⟩
        refine iteD (fun q264 => ?_) (fun q264 => ?_)
        · have hk := wp_if hk q264
          obtain ⟨p265, w266, e267, h268, hl269⟩ := R.lst_ h123
          cases e267
          obtain ⟨y270, e271, hk⟩ := wp_opt hk
          obtain ⟨w272, e273, r274⟩ := hl269.atI e271
          obtain rfl := R.int_ r274
          obtain ⟨p275, w276, e277, h278, hl279⟩ := R.lst_ h123
          cases e277
          obtain ⟨y280, e281, hk⟩ := wp_opt hk
          obtain ⟨w282, e283, r284⟩ := hl279.atI e281
          obtain rfl := R.int_ r284
          obtain ⟨p285, w286, e287, h288, hl289⟩ := R.lst_ h123
          cases e287
          obtain ⟨y290, e291, hk⟩ := wp_opt hk
          obtain ⟨w292, e293, r294⟩ := hl289.atI e291
          obtain rfl := R.int_ r294
          refine ⟨_, rfl, _, rfl, _, _, rfl, rfl, _, _, _, _, rfl, rfl, (SqLF O216.s h268), e273, [some (V.ref a_script), some (V.int x_many), some (V.int x_least), some (V.ref p12), some (V.ref p37), some (V.ref p53), some (V.ref p65), some (V.int ((r124 / (512 : Int)) % (4 : Int))), some (V.ref p133), some (V.int y168.1), some (V.int y168.2), some (V.int y226), some (V.int y270)], rfl, _, rfl, (.inl ⟨rfl, _, SqL.of (O216.at 0 rfl)⟩), _, rfl, _, rfl, _, _, _, _, rfl, rfl, (SqLF O216.s h278), e283, _, rfl, _, _, rfl, _, rfl, _, rfl, _, _, _, _, rfl, rfl, (SqLF O216.s h288), e293, _, rfl, _, _, rfl, _, rfl, (by show 3 ≤ sizeLine; decide), fun p295 hp296 => ?_⟩
          obtain ⟨F297, O298, S299, h300⟩ := O216.putE hp296 (.tup [V.int (if y270 < y280 then y270 else y280), V.int (if y270 > y290 then y270 else y290), V.int y226])
          have f_script := S299.seq f_script
          have h25 := h25.mono S299
          have h50 := h50.mono S299
          have hl117 := hl117.mono S299
          have h123 := h123.mono S299
          have h162 := h162.mono S299
          have h166 := S299 _ _ h166
          have hl167 := hl167.mono S299
          have hl181 := hl181.mono S299
          have S178 := S178.trans S299
          have r196 := r196.mono S299
          have h201 := h201.mono S299
          have h205 := S299 _ _ h205
          have h219 := h219.mono S299
          have h224 := S299 _ _ h224
          have hl225 := hl225.mono S299
          have h235 := S299 _ _ h235
          have hl236 := hl236.mono S299
          have h246 := S299 _ _ h246
          have hl247 := hl247.mono S299
          have h256 := S299 _ _ h256
          have hl257 := hl257.mono S299
          have h268 := S299 _ _ h268
          have hl269 := hl269.mono S299
          have h278 := S299 _ _ h278
          have hl279 := hl279.mono S299
          have h288 := S299 _ _ h288
          have hl289 := hl289.mono S299
          have h301 : R (a := (T3 Int Int Int)) F297 (.ref p295) (T3.mk (if y270 < y280 then y270 else y280) (if y270 > y290 then y270 else y290) y226) := R.t3 h300 R.int R.int R.int
          obtain ⟨c302, hk⟩ := wp_appL hk
          refine ⟨_, _, _, rfl, rfl, (O298.at 0 rfl), (by rw [hl181.len]; exact c302), ?_⟩
          have O304 := O298.set 0 (.lst (w180 ++ [V.ref p295])) rfl
          have hl305 : RL (a := (T3 Int Int Int)) F297 (w180 ++ [V.ref p295]) (st179 ++ [(T3.mk (if y270 < y280 then y270 else y280) (if y270 > y290 then y270 else y290) y226)]) := RL.snoc hl181 h301
          exact ⟨F297, (st179 ++ [(T3.mk (if y270 < y280 then y270 else y280) (if y270 > y290 then y270 else y290) y226)]), (w180 ++ [V.ref p295]), some (V.int y168.1), some (V.int y168.2), some (V.int y226), some (V.int y270), rfl, S178, O304, hl305, hk⟩
        · have hk := wp_el hk q264
          obtain ⟨p306, w307, e308, h309, hl310⟩ := R.lst_ h123
          cases e308
          obtain ⟨y311, e312, hk⟩ := wp_opt hk
          obtain ⟨w313, e314, r315⟩ := hl310.atI e312
          obtain rfl := R.int_ r315
          obtain ⟨p316, w317, e318, h319, hl320⟩ := R.lst_ h123
          cases e318
          obtain ⟨y321, e322, hk⟩ := wp_opt hk
          obtain ⟨w323, e324, r325⟩ := hl320.atI e322
          obtain rfl := R.int_ r325
          refine ⟨_, rfl, (.inl ⟨rfl, _, SqL.of (O216.at 0 rfl)⟩), _, rfl, _, rfl, _, _, _, _, rfl, rfl, (SqLF O216.s h309), e314, _, rfl, _, _, rfl, _, rfl, _, rfl, _, _, _, _, rfl, rfl, (SqLF O216.s h319), e324, _, rfl, _, _, rfl, _, rfl, (by show 3 ≤ sizeLine; decide), fun p326 hp327 => ?_⟩
          obtain ⟨F328, O329, S330, h331⟩ := O216.putE hp327 (.tup [V.int (if y248 < y311 then y248 else y311), V.int (if y248 > y321 then y248 else y321), V.int y226])
          have f_script := S330.seq f_script
          have h25 := h25.mono S330
          have h50 := h50.mono S330
          have hl117 := hl117.mono S330
          have h123 := h123.mono S330
          have h162 := h162.mono S330
          have h166 := S330 _ _ h166
          have hl167 := hl167.mono S330
          have hl181 := hl181.mono S330
          have S178 := S178.trans S330
          have r196 := r196.mono S330
          have h201 := h201.mono S330
          have h205 := S330 _ _ h205
          have h219 := h219.mono S330
          have h224 := S330 _ _ h224
          have hl225 := hl225.mono S330
          have h235 := S330 _ _ h235
          have hl236 := hl236.mono S330
          have h246 := S330 _ _ h246
          have hl247 := hl247.mono S330
          have h256 := S330 _ _ h256
          have hl257 := hl257.mono S330
          have h309 := S330 _ _ h309
          have hl310 := hl310.mono S330
          have h319 := S330 _ _ h319
          have hl320 := hl320.mono S330
          have h332 : R (a := (T3 Int Int Int)) F328 (.ref p326) (T3.mk (if y248 < y311 then y248 else y311) (if y248 > y321 then y248 else y321) y226) := R.t3 h331 R.int R.int R.int
          obtain ⟨c333, hk⟩ := wp_appL hk
          refine ⟨_, _, _, rfl, rfl, (O329.at 0 rfl), (by rw [hl181.len]; exact c333), ?_⟩
          have O335 := O329.set 0 (.lst (w180 ++ [V.ref p326])) rfl
          have hl336 : RL (a := (T3 Int Int Int)) F328 (w180 ++ [V.ref p326]) (st179 ++ [(T3.mk (if y248 < y311 then y248 else y311) (if y248 > y321 then y248 else y321) y226)]) := RL.snoc hl181 h332
          exact ⟨F328, (st179 ++ [(T3.mk (if y248 < y311 then y248 else y311) (if y248 > y321 then y248 else y321) y226)]), (w180 ++ [V.ref p326]), some (V.int y168.1), some (V.int y168.2), some (V.int y226), some (V.int y248), rfl, S178, O335, hl336, hk⟩
      · have hk := wp_el hk q231
        exact ⟨F215, st179, w180, some (V.int y168.1), some (V.int y168.2), some (V.int y226), t185, rfl, S178, O216, hl181, hk⟩
    rintro sg337 H338 ⟨F348, st340, w342, t344, t345, t346, t347, rfl, S339, O349, hl343, hL341⟩
    rw [enumL_end hl167.len] at hL341
    have hk := hLd172 _ hL341
    have f_script := S339.seq f_script
    have h25 := h25.mono S339
    have h50 := h50.mono S339
    have hl117 := hl117.mono S339
    have h123 := h123.mono S339
    have h162 := h162.mono S339
    have h166 := S339 _ _ h166
    have hl167 := hl167.mono S339
    refine ⟨_, rfl, _, _, _, rfl, (O349.at 0 rfl), (RL.mono hl343 O349.s), fun p351 hp352 => ?_⟩
    have hl354 : RL (a := (T3 Int Int Int)) F348 (sortV w342 st340) (sortT st340) := (RL.sorted hl343)
    have z355 := O349.was hp352
    have O353 := O349.new (o := .lst (sortV w342 st340)) hp352
    exact hk _ _  O353.g  _ _ z355 (O353.cf _ (List.mem_of_getElem? (i := 0) rfl)) (O353.at 0 rfl) hl354
abbrev s_law_tree : Stmt := top 29
theorem sc_law_tree : FnScope ["script", "most", "least", "first", "many"] ["script", "most", "least"] (defScope s_law_tree) := ⟨rfl, rfl, rfl, by decide +kernel, rfl, by decide +kernel, by decide +kernel⟩
def m_law_tree (x_script : (List Int)) (x_most : Int) (x_least : Int) : M (((List Int) × (List (T3 Int Int Int)))) :=
m_law_cell_at x_script (0 : Int) >>= fun r1 =>
chk (0 < (if (9 : Int) < x_most then (9 : Int) else x_most)) >>= fun _ =>
if (9 : Int) < x_most then (
chk (CDivW r1 (16 : Int)) >>= fun _ =>
chk (0 < (8 : Int)) >>= fun _ =>
if ((r1 / (16 : Int)) % (8 : Int)) = (3 : Int) then (
chk (CDivW r1 (4096 : Int)) >>= fun _ =>
chk (0 < (x_most - (9 : Int))) >>= fun _ =>
chk (CDivW r1 (128 : Int)) >>= fun _ =>
chk (0 < (2 : Int)) >>= fun _ =>
opt (atI ([x_most, ((10 : Int) + ((r1 / (4096 : Int)) % (x_most - (9 : Int))))]) ((r1 / (128 : Int)) % (2 : Int))) >>= fun y29 =>
m_law_worths x_script y29 >>= fun r34 =>
m_law_ties x_script y29 x_least >>= fun r53 =>
.ok (r34, r53))
else (
m_law_worths x_script ((1 : Int) + (r1 % (if (9 : Int) < x_most then (9 : Int) else x_most))) >>= fun r79 =>
m_law_ties x_script ((1 : Int) + (r1 % (if (9 : Int) < x_most then (9 : Int) else x_most))) x_least >>= fun r98 =>
.ok (r79, r98)))
else (
m_law_worths x_script ((1 : Int) + (r1 % (if (9 : Int) < x_most then (9 : Int) else x_most))) >>= fun r124 =>
m_law_ties x_script ((1 : Int) + (r1 % (if (9 : Int) < x_most then (9 : Int) else x_most))) x_least >>= fun r143 =>
.ok (r124, r143))
def sp_law_tree (K : PySem.W.Frag) (mg : Str → Option Value) : Sp := fun vs H Q E => ∃ (F : Hp) (a_script : Addr) (x_script : (List Int)) (x_most : Int) (x_least : Int), vs = [.ref a_script, V.int x_most, V.int x_least] ∧ Pre F [] H ∧ SqL K F a_script (x_script.map V.int) ∧
  wp (m_law_tree x_script x_most x_least) (fun r => ∀ (F' H' : Hp), Gr [] F H F' H' → ∀ v : V, R (a := ((List Int) × (List (T3 Int Int Int)))) F' v r → Q v H')
  (fun n => ∀ (C : Addr) (H' : Hp), mg (Str.ofString n) = some (.ref C) → Kp [] H H' → E (.ref C) none H')
set_option maxHeartbeats 20000000 in
theorem ok_law_tree (nb : Nb mg) (C_law_cell_at : Ca P w K mg base "_law_cell_at" 1 ["script", "k"] (sp_law_cell_at K mg)) (C_law_ties : Ca P w K mg base "_law_ties" 2 ["script", "many", "least"] (sp_law_ties K mg)) (C_law_worths : Ca P w K mg base "_law_worths" 2 ["script", "many"] (sp_law_worths K mg)) (D : Df K mg "_law_tree" "_law_tree" s_law_tree ["script", "most", "least"]) : Ca P w K mg base "_law_tree" 3 ["script", "most", "least"] (sp_law_tree K mg) := by
  obtain ⟨fa_law_cell_at, fd_law_cell_at, G_law_cell_at, M_law_cell_at, K_law_cell_at, B_law_cell_at⟩ := C_law_cell_at.ex
  obtain ⟨fa_law_ties, fd_law_ties, G_law_ties, M_law_ties, K_law_ties, B_law_ties⟩ := C_law_ties.ex
  obtain ⟨fa_law_worths, fd_law_worths, G_law_worths, M_law_worths, K_law_worths, B_law_worths⟩ := C_law_worths.ex
  refine Ca.mk' D sc_law_tree (fun vs H Q E h => ?_) (fun q_ f_ cdv A outer s H vs Q E hr h => ?_)
  · obtain ⟨F, _, _, _, _, rfl, _⟩ := h
    rfl
  · obtain ⟨F, a_script, x_script, x_most, x_least, rfl, P0, f_script, hk⟩ := h
    have nd := sc_law_tree.nd
    have hu64 := hr.units
    have hu128 := hu128_of hr
    have O := P0.start
    refine ⟨_, (pss_cons (ps_toN (ps_set (i := 3) nd rfl (Or.inl rfl) (pe_call G_law_cell_at (hr.mono (by decide)) rfl M_law_cell_at K_law_cell_at B_law_cell_at .nil (passes_call (takes_of rfl rfl rfl rfl) fun _ _ _ _ h => h) (pa_cons (pv 0) (pa_cons pe_int pa_nil)))))
  (pss_cons (ps_toN (ps_set (i := 4) nd rfl (Or.inl rfl) (pe_op op_add pe_int (pe_op op_mod (pv 3) (pe_callB (call_min2 rfl) (by rfl) nb.b_min (by decide +kernel) (pa_cons (pv 1) (pa_cons pe_int pa_nil)))))))
  (pss_cons (ps_if (PW.pt (pw_and (pt_cmpR op_gt (pv 1) pe_int (nomark _)) (pw_and1 (pt_cmpR (op_eqT Int hu64) (pe_op op_mod (pe_op op_fdivW (pv 3) pe_int) pe_int) pe_int (nomark _))))) (pss_one (ps_toN (ps_set (i := 4) nd rfl (Or.inl rfl) (pe_ix (ixListK (K := K) rfl) (pe_lst (pa_cons (pv 1) (pa_cons (pe_op op_add pe_int (pe_op op_mod (pe_op op_fdivW (pv 3) pe_int) (pe_op op_sub (pv 1) pe_int))) pa_nil))) (pe_op op_mod (pe_op op_fdivW (pv 3) pe_int) pe_int) (fun _ _ => rfl))))) pss_nil)
  (pss_one (ps_ret (pe_tup (pa_cons (pe_call G_law_worths (hr.mono (by decide)) rfl M_law_worths K_law_worths B_law_worths .nil (passes_call (takes_of rfl rfl rfl rfl) fun _ _ _ _ h => h) (pa_cons (pv 0) (pa_cons (pv 4) pa_nil))) (pa_cons (pe_call G_law_ties (hr.mono (by decide)) rfl M_law_ties K_law_ties B_law_ties .nil (passes_call (takes_of rfl rfl rfl rfl) fun _ _ _ _ h => h) (pa_cons (pv 0) (pa_cons (pv 4) (pa_cons (pv 2) pa_nil)))) pa_nil)))))))), ?_⟩
    refine ⟨_, rfl, _, _, _, _, rfl, O.pre0, f_script, wp_call hk (fun r1 er2 hk F3 H4 g5 => ?_) (fun n hn C H1 hC kp => hn C H1 hC (O.kp0 kp))⟩
    have O6 := O.call0 g5
    have S_ := g5.f
    have f_script := S_.seq f_script
    obtain ⟨c7, hk⟩ := wp_chk hk
    refine ⟨[some (V.ref a_script), some (V.int x_most), some (V.int x_least), some (V.int r1), none], rfl, _, rfl, _, rfl, _, _, rfl, _, _, rfl, rfl, c7, _, _, rfl, rfl, [some (V.ref a_script), some (V.int x_most), some (V.int x_least), some (V.int r1), some (V.int ((1 : Int) + (r1 % (if (9 : Int) < x_most then (9 : Int) else x_most))))], rfl, _, rfl, _, _, rfl, rfl, _, rfl, ?_⟩
    refine iteD (fun q8 => ?_) (fun q8 => ?_)
    · have hk := wp_if hk q8
      obtain ⟨c9, hk⟩ := wp_chk hk
      obtain ⟨c10, hk⟩ := wp_chk hk
      refine ⟨_, rfl, _, _, rfl, rfl, c9, _, _, rfl, rfl, c10, _, _, R.int, R.int, _, rfl, ?_⟩
      refine iteD (fun q11 => ?_) (fun q11 => ?_)
      · have hk := wp_if hk q11
        obtain ⟨c12, hk⟩ := wp_chk hk
        obtain ⟨c13, hk⟩ := wp_chk hk
        refine ⟨_, rfl, _, rfl, _, _, rfl, rfl, c12, _, rfl, _, _, rfl, rfl, _, _, rfl, rfl, c13, _, _, rfl, rfl, (by show 2 ≤ sizeLine; decide), fun p14 hp15 => ?_⟩
        have hl21 : RL (a := Int) F3 ([V.int x_most, V.int ((10 : Int) + ((r1 / (4096 : Int)) % (x_most - (9 : Int))))]) ([x_most, ((10 : Int) + ((r1 / (4096 : Int)) % (x_most - (9 : Int))))]) := RL.cons R.int (RL.cons R.int RL.nil)
        obtain ⟨F16, O17, S18, h19⟩ := O6.putE hp15 (.lst ([V.int x_most, V.int ((10 : Int) + ((r1 / (4096 : Int)) % (x_most - (9 : Int))))]))
        have f_script := S18.seq f_script
        have hl21 := hl21.mono S18
        have h20 := R.lst (a := Int) h19 hl21
        obtain ⟨c22, hk⟩ := wp_chk hk
        obtain ⟨c23, hk⟩ := wp_chk hk
        obtain ⟨p24, w25, e26, h27, hl28⟩ := R.lst_ h20
        cases e26
        obtain ⟨y29, e30, hk⟩ := wp_opt hk
        obtain ⟨w31, e32, r33⟩ := hl28.atI e30
        obtain rfl := R.int_ r33
        refine ⟨_, rfl, _, _, rfl, rfl, c22, _, _, rfl, rfl, c23, _, _, _, _, rfl, rfl, (SqLF O17.s h27), e32, [some (V.ref a_script), some (V.int x_most), some (V.int x_least), some (V.int r1), some (V.int y29)], rfl, _, rfl, _, rfl, _, _, _, _, rfl, O17.pre0, f_script, wp_call hk (fun r34 er35 hk F36 H37 g38 p39 w40 hn41 hf42 h43 hl44 => ?_) (fun n hn C H1 hC kp => hn C H1 hC (O17.kp0 kp))⟩
        have O45 := O17.call0 g38
        have S_ := g38.f
        have f_script := S_.seq f_script
        have h20 := h20.mono S_
        have h27 := S_ _ _ h27
        have hl28 := hl28.mono S_
        have O46 := O17.got O45 rfl hn41 hf42 h43
        have z47 := O17.was hn41
        obtain ⟨F48, O49, S50, h51⟩ := O46.frzE 0 rfl z47
        have f_script := S50.seq f_script
        have h20 := h20.mono S50
        have h27 := S50 _ _ h27
        have hl28 := hl28.mono S50
        have hl44 := hl44.mono S50
        have h52 := R.lst (a := Int) h51 hl44
        refine ⟨_, rfl, _, rfl, _, rfl, _, _, _, _, _, rfl, O49.pre0, f_script, wp_call hk (fun r53 er54 hk F55 H56 g57 p58 w59 hn60 hf61 h62 hl63 => ?_) (fun n hn C H1 hC kp => hn C H1 hC (O49.kp0 kp))⟩
        have O64 := O49.call0 g57
        have S_ := g57.f
        have f_script := S_.seq f_script
        have h20 := h20.mono S_
        have h27 := S_ _ _ h27
        have hl28 := hl28.mono S_
        have h52 := h52.mono S_
        have O65 := O49.got O64 rfl hn60 hf61 h62
        have z66 := O49.was hn60
        obtain ⟨F67, O68, S69, h70⟩ := O65.frzE 0 rfl z66
        have f_script := S69.seq f_script
        have h20 := h20.mono S69
        have h27 := S69 _ _ h27
        have hl28 := hl28.mono S69
        have h52 := h52.mono S69
        have hl63 := hl63.mono S69
        have h71 := R.lst (a := (T3 Int Int Int)) h70 hl63
        refine ⟨(by show 2 ≤ sizeLine; decide), fun p72 hp73 => ?_⟩
        obtain ⟨F74, O75, S76, h77⟩ := O68.putE hp73 (.tup [V.ref p39, V.ref p58])
        have f_script := S76.seq f_script
        have h20 := h20.mono S76
        have h27 := S76 _ _ h27
        have hl28 := hl28.mono S76
        have h52 := h52.mono S76
        have h71 := h71.mono S76
        have h78 : R (a := ((List Int) × (List (T3 Int Int Int)))) F74 (.ref p72) (r34, r53) := R.t2 h77 h52 h71
        exact hk _ _  O75.g  _ h78
      · have hk := wp_el hk q11
        refine ⟨_, rfl, _, rfl, _, _, _, _, rfl, O6.pre0, f_script, wp_call hk (fun r79 er80 hk F81 H82 g83 p84 w85 hn86 hf87 h88 hl89 => ?_) (fun n hn C H1 hC kp => hn C H1 hC (O6.kp0 kp))⟩
        have O90 := O6.call0 g83
        have S_ := g83.f
        have f_script := S_.seq f_script
        have O91 := O6.got O90 rfl hn86 hf87 h88
        have z92 := O6.was hn86
        obtain ⟨F93, O94, S95, h96⟩ := O91.frzE 0 rfl z92
        have f_script := S95.seq f_script
        have hl89 := hl89.mono S95
        have h97 := R.lst (a := Int) h96 hl89
        refine ⟨_, rfl, _, rfl, _, rfl, _, _, _, _, _, rfl, O94.pre0, f_script, wp_call hk (fun r98 er99 hk F100 H101 g102 p103 w104 hn105 hf106 h107 hl108 => ?_) (fun n hn C H1 hC kp => hn C H1 hC (O94.kp0 kp))⟩
        have O109 := O94.call0 g102
        have S_ := g102.f
        have f_script := S_.seq f_script
        have h97 := h97.mono S_
        have O110 := O94.got O109 rfl hn105 hf106 h107
        have z111 := O94.was hn105
        obtain ⟨F112, O113, S114, h115⟩ := O110.frzE 0 rfl z111
        have f_script := S114.seq f_script
        have h97 := h97.mono S114
        have hl108 := hl108.mono S114
        have h116 := R.lst (a := (T3 Int Int Int)) h115 hl108
        refine ⟨(by show 2 ≤ sizeLine; decide), fun p117 hp118 => ?_⟩
        obtain ⟨F119, O120, S121, h122⟩ := O113.putE hp118 (.tup [V.ref p84, V.ref p103])
        have f_script := S121.seq f_script
        have h97 := h97.mono S121
        have h116 := h116.mono S121
        have h123 : R (a := ((List Int) × (List (T3 Int Int Int)))) F119 (.ref p117) (r79, r98) := R.t2 h122 h97 h116
        exact hk _ _  O120.g  _ h123
    · have hk := wp_el hk q8
      refine iteF ?_
      refine ⟨_, rfl, _, rfl, _, _, _, _, rfl, O6.pre0, f_script, wp_call hk (fun r124 er125 hk F126 H127 g128 p129 w130 hn131 hf132 h133 hl134 => ?_) (fun n hn C H1 hC kp => hn C H1 hC (O6.kp0 kp))⟩
      have O135 := O6.call0 g128
      have S_ := g128.f
      have f_script := S_.seq f_script
      have O136 := O6.got O135 rfl hn131 hf132 h133
      have z137 := O6.was hn131
      obtain ⟨F138, O139, S140, h141⟩ := O136.frzE 0 rfl z137
      have f_script := S140.seq f_script
      have hl134 := hl134.mono S140
      have h142 := R.lst (a := Int) h141 hl134
      refine ⟨_, rfl, _, rfl, _, rfl, _, _, _, _, _, rfl, O139.pre0, f_script, wp_call hk (fun r143 er144 hk F145 H146 g147 p148 w149 hn150 hf151 h152 hl153 => ?_) (fun n hn C H1 hC kp => hn C H1 hC (O139.kp0 kp))⟩
      have O154 := O139.call0 g147
      have S_ := g147.f
      have f_script := S_.seq f_script
      have h142 := h142.mono S_
      have O155 := O139.got O154 rfl hn150 hf151 h152
      have z156 := O139.was hn150
      obtain ⟨F157, O158, S159, h160⟩ := O155.frzE 0 rfl z156
      have f_script := S159.seq f_script
      have h142 := h142.mono S159
      have hl153 := hl153.mono S159
      have h161 := R.lst (a := (T3 Int Int Int)) h160 hl153
      refine ⟨(by show 2 ≤ sizeLine; decide), fun p162 hp163 => ?_⟩
      obtain ⟨F164, O165, S166, h167⟩ := O158.putE hp163 (.tup [V.ref p129, V.ref p148])
      have f_script := S166.seq f_script
      have h142 := h142.mono S166
      have h161 := h161.mono S166
      have h168 : R (a := ((List Int) × (List (T3 Int Int Int)))) F164 (.ref p162) (r124, r143) := R.t2 h167 h142 h161
      exact hk _ _  O165.g  _ h168
abbrev s_law_some : Stmt := top 30
theorem sc_law_some : FnScope ["many", "found", "place", "row"] ["many"] (defScope s_law_some) := ⟨rfl, rfl, rfl, by decide +kernel, rfl, by decide +kernel, by decide +kernel⟩
def m_law_some (x_many : Int) : M ((List (List Int))) :=
chk (okR (x_many - (1 : Int))) >>= fun _ =>
chk (okR (-(1 : Int))) >>= fun _ =>
loopN (fun (y17 : Int) (st30 : (List (List Int))) =>
compS (fun (y57 : (List Int)) (st74 : Unit) =>
chk (([y17]).length + y57.length < 16777216) >>= fun _ =>
.ok (some (([y17]) ++ y57), ())) st30 () >>= fun q118 =>
chk (([([] : List Int)]).length + q118.1.length < 16777216) >>= fun _ =>
chk ((([([] : List Int)]) ++ q118.1).length + (cutL st30 (some (1 : Int)) none).length < 16777216) >>= fun _ =>
.ok ((([([] : List Int)]) ++ q118.1) ++ (cutL st30 (some (1 : Int)) none))) (rangeD (x_many - (1 : Int)) (-(1 : Int))) ([([] : List Int)]) >>= fun st178 =>
.ok st178
def sp_law_some (mg : Str → Option Value) : Sp := fun vs H Q E => ∃ (F : Hp) (x_many : Int), vs = [V.int x_many] ∧ Pre F [] H ∧
  wp (m_law_some x_many) (fun r => ∀ (F' H' : Hp), Gr [] F H F' H' → ∀ v : V, R (a := (List (List Int))) F' v r → Q v H')
  (fun n => ∀ (C : Addr) (H' : Hp), mg (Str.ofString n) = some (.ref C) → Kp [] H H' → E (.ref C) none H')
set_option maxHeartbeats 20000000 in
theorem ok_law_some (nb : Nb mg) (D : Df K mg "_law_some" "_law_some" s_law_some ["many"]) : Ca P w K mg base "_law_some" 1 ["many"] (sp_law_some mg) := by
  refine Ca.mk' D sc_law_some (fun vs H Q E h => ?_) (fun q_ f_ cdv A outer s H vs Q E hr h => ?_)
  · obtain ⟨F, _, rfl, _⟩ := h
    rfl
  · obtain ⟨F, x_many, rfl, P0, hk⟩ := h
    have nd := sc_law_some.nd
    have hu64 := hr.units
    have hu128 := hu128_of hr
    have O := P0.start
    refine ⟨_, (pss_cons (ps_toN (ps_set (i := 1) nd rfl (Or.inl rfl) (pe_lst (pa_cons (pe_lst pa_nil) pa_nil))))
  (pss_cons (ps_for (passes_of rfl) rfl (pi_range3 rfl nb.b_range (pa_cons (pe_op op_sub (pv 0) pe_int) (pa_cons (pe_un un_neg pe_int) (pa_cons (pe_un un_neg pe_int) pa_nil)))) (pg_name (i := 2) nd rfl (Or.inr rfl)) (pss_one (ps_toN (ps_set (i := 1) nd rfl (Or.inl rfl) (pe_op op_cat (pe_op op_cat (pe_lst (pa_cons (pe_lst pa_nil) pa_nil)) (pe_lc (own := [("row", 3)]) (g := gName 3) (tt := _) rfl nd (piListK (K := K) rfl (pv 1)) (blkOk_by (own := [("row", 3)]) (N := ["many", "found", "place", "row"]) (sc := defScope s_law_some) (by decide +kernel)) (fun _ _ _ _ _ => (pg_name (i := 3) nd rfl (Or.inl rfl))) (fun _ _ _ _ _ => pts_nil) (fun _ _ _ _ _ => (pe_op op_cat (pe_lst (pa_cons (pv 2) pa_nil)) (pv 3))))) (pe_slice (slListK (K := K) rfl) (pv 1) (po_some pe_int) po_none))))))
  (pss_one (ps_ret (pv 1))))), ?_⟩
    refine ⟨(by show 0 ≤ sizeLine; decide), fun p1 hp2 => ?_⟩
    have hl8 : RL (a := Int) F ([]) ([] : List Int) := RL.nil
    obtain ⟨F3, O4, S5, h6⟩ := O.putE hp2 (.lst ([]))
    have hl8 := hl8.mono S5
    have h7 := R.lst (a := Int) h6 hl8
    refine ⟨(by show 1 ≤ sizeLine; decide), fun p9 hp10 => ?_⟩
    have hl16 : RL (a := (List Int)) F3 ([V.ref p1]) ([([] : List Int)]) := RL.cons h7 RL.nil
    obtain ⟨F11, O12, S13, h14⟩ := O4.putE hp10 (.lst ([V.ref p1]))
    have h7 := h7.mono S13
    have hl16 := hl16.mono S13
    have h15 := R.lst (a := (List Int)) h14 hl16
    obtain ⟨c18, hk⟩ := wp_chk hk
    obtain ⟨c19, hk⟩ := wp_chk hk
    obtain ⟨L20, hL21, hLs22, hLd23⟩ := loopN_L hk
    refine ⟨[some (V.int x_many), some (V.ref p9), none, none], rfl, _, rfl, _, _, rfl, rfl, _, rfl, _, rfl, _, _, _, _, rfl, (RgC.neg c18.lo c18.hi c19.lo c19.hi), ?_⟩
    refine for_rangeC (lo := (x_many - (1 : Int))) (c := (-(1 : Int))) (n := ((x_many - (1 : Int)) - (-(1 : Int))).toNat) (fun i σ H_ => ∃ (F_ : Hp) (st : (List (List Int))) (v_0 : V) (t_0 : Option V), σ = [some (V.int x_many), some v_0, t_0, none] ∧ Same F11 F_ ∧ Ow _ F_ [] H_ ∧ R (a := (List (List Int))) F_ v_0 st ∧ L20 (List.drop i (rangeD (x_many - (1 : Int)) (-(1 : Int)))) st) ⟨F11, [([] : List Int)], V.ref p9, none, rfl, Same.refl _, O12, h15, hL21⟩ ?_ ?_
    · rintro i24 sg26 H27 hi28 ⟨F34, st30, v31, t33, rfl, S29, O35, r32, hL21⟩
      have h7 := h7.mono S29
      have h15 := h15.mono S29
      rw [rangeD_get hi28] at hL21
      have hk := hLs22 _ _ _ hL21
      obtain ⟨y17, he_⟩ : ∃ z_, z_ = (x_many - (1 : Int)) + (i24 : Int) * (-(1 : Int)) := ⟨_, rfl⟩
      try rw [← he_] at hk
      rw [← he_]
      refine ⟨(by show 0 ≤ sizeLine; decide), fun p36 hp37 => ?_⟩
      have hl43 : RL (a := Int) F34 ([]) ([] : List Int) := RL.nil
      obtain ⟨F38, O39, S40, h41⟩ := O35.putE hp37 (.lst ([]))
      have h7 := h7.mono S40
      have h15 := h15.mono S40
      have r32 := r32.mono S40
      have S29 := S29.trans S40
      have hl43 := hl43.mono S40
      have h42 := R.lst (a := Int) h41 hl43
      refine ⟨(by show 1 ≤ sizeLine; decide), fun p44 hp45 => ?_⟩
      have hl51 : RL (a := (List Int)) F38 ([V.ref p36]) ([([] : List Int)]) := RL.cons h42 RL.nil
      obtain ⟨F46, O47, S48, h49⟩ := O39.putE hp45 (.lst ([V.ref p36]))
      have h7 := h7.mono S48
      have h15 := h15.mono S48
      have r32 := r32.mono S48
      have S29 := S29.trans S48
      have h42 := h42.mono S48
      have hl51 := hl51.mono S48
      have h50 := R.lst (a := (List Int)) h49 hl51
      obtain ⟨p52, w53, e54, h55, hl56⟩ := R.lst_ r32
      cases e54
      obtain ⟨c62, L58, hL59, hLs60, hLd61⟩ := compS_L hk
      refine ⟨_, rfl, _, rfl, ⟨_, (SqLF O47.s h55)⟩, fun p63 hp64 => ?_⟩
      have z107 := O47.was hp64
      refine lc_list (K := K) (xs := w53) (fun i H => ∃ (F_ : Hp) (st : Unit) (acc : List (List Int)) (wa : List V), Same F46 F_ ∧ Ow _ F_ [(p63, .lst wa)] H ∧ RL F_ wa acc ∧ wa.length ≤ i ∧ L58 (List.drop i st30) acc st) ⟨F46, (), [], [], Same.refl _, O47.new hp64, RL.nil, Nat.zero_le _, hL59⟩ (fun i_ H_ _ hp_ => ?_) ?_ ?_
      · obtain ⟨_, _, _, _, hS_, hO_, _⟩ := hp_
        exact SqLF hO_.s (hS_ _ _ h55)
      · rintro i65 x66 H67 hi68 ⟨F73, st74, acc70, wa71, S75, O77, hl76, la72, hL59⟩
        have h7 := h7.mono S75
        have h15 := h15.mono S75
        have r32 := r32.mono S75
        have S29 := S29.trans S75
        have h42 := h42.mono S75
        have h50 := h50.mono S75
        have h55 := S75 _ _ h55
        have hl56 := hl56.mono S75
        obtain ⟨y57, e78, r79⟩ := RL.got hl56 hi68
        rw [drop_at e78] at hL59
        have hk := hLs60 _ _ _ _ hL59
        refine ⟨rfl, ?_⟩
        refine ⟨_, rfl, (by show 1 ≤ sizeLine; decide), fun p80 hp81 => ?_⟩
        have hl87 : RL (a := Int) F73 ([V.int y17]) ([y17]) := RL.cons R.int RL.nil
        obtain ⟨F82, O83, S84, h85⟩ := O77.putE hp81 (.lst ([V.int y17]))
        have h7 := h7.mono S84
        have h15 := h15.mono S84
        have r32 := r32.mono S84
        have S29 := S29.trans S84
        have h42 := h42.mono S84
        have h50 := h50.mono S84
        have h55 := S84 _ _ h55
        have hl56 := hl56.mono S84
        have S75 := S75.trans S84
        have hl76 := hl76.mono S84
        have r79 := r79.mono S84
        have hl87 := hl87.mono S84
        have h86 := R.lst (a := Int) h85 hl87
        obtain ⟨p88, w89, e90, h91, hl92⟩ := R.lst_ h86
        cases e90
        obtain ⟨p93, w94, e95, h96, hl97⟩ := R.lst_ r79
        cases e95
        obtain ⟨c98, hk⟩ := wp_chk hk
        refine ⟨_, rfl, _, _, _, _, rfl, rfl, (O83.s _ _ h91), (O83.s _ _ h96), (by rw [hl92.len, hl97.len]; exact le_line c98), fun p99 hp100 => ?_⟩
        have hl106 : RL (a := Int) F82 (w89 ++ w94) (([y17]) ++ y57) := RL.app hl92 hl97
        obtain ⟨F101, O102, S103, h104⟩ := O83.putE hp100 (.lst (w89 ++ w94))
        have h7 := h7.mono S103
        have h15 := h15.mono S103
        have r32 := r32.mono S103
        have S29 := S29.trans S103
        have h42 := h42.mono S103
        have h50 := h50.mono S103
        have h55 := S103 _ _ h55
        have hl56 := hl56.mono S103
        have S75 := S75.trans S103
        have hl76 := hl76.mono S103
        have r79 := r79.mono S103
        have h86 := h86.mono S103
        have h91 := S103 _ _ h91
        have hl92 := hl92.mono S103
        have h96 := S103 _ _ h96
        have hl97 := hl97.mono S103
        have hl106 := hl106.mono S103
        have h105 := R.lst (a := Int) h104 hl106
        refine ⟨_, (O102.at 0 rfl), (comp_len la72 hi68 hl56.len c62), ?_⟩
        exact ⟨F101, (), acc70 ++ [(([y17]) ++ y57)], wa71 ++ [V.ref p99], S75, O102.set 0 (.lst (wa71 ++ [V.ref p99])) rfl, RL.snoc hl76 h105, by rw [List.length_append]; exact Nat.succ_le_succ la72, hk⟩
      rintro H108 ⟨F109, st110, acc111, wa112, S113, O114, hl115, la116, hL117⟩
      rw [drop_end hl56.len] at hL117
      have hk := hLd61 _ _ hL117
      have h7 := h7.mono S113
      have h15 := h15.mono S113
      have r32 := r32.mono S113
      have S29 := S29.trans S113
      have h42 := h42.mono S113
      have h50 := h50.mono S113
      have h55 := S113 _ _ h55
      have hl56 := hl56.mono S113
      obtain ⟨F119, O120, S121, h122⟩ := O114.frzE 0 rfl z107
      have h7 := h7.mono S121
      have h15 := h15.mono S121
      have r32 := r32.mono S121
      have S29 := S29.trans S121
      have h42 := h42.mono S121
      have h50 := h50.mono S121
      have h55 := S121 _ _ h55
      have hl56 := hl56.mono S121
      have hl115 := hl115.mono S121
      have h123 := R.lst (a := (List Int)) h122 hl115
      obtain ⟨p124, w125, e126, h127, hl128⟩ := R.lst_ h50
      cases e126
      obtain ⟨p129, w130, e131, h132, hl133⟩ := R.lst_ h123
      cases e131
      obtain ⟨c134, hk⟩ := wp_chk hk
      refine ⟨_, _, _, _, rfl, rfl, (O120.s _ _ h127), (O120.s _ _ h132), (by rw [hl128.len, hl133.len]; exact le_line c134), fun p135 hp136 => ?_⟩
      have hl142 : RL (a := (List Int)) F119 (w125 ++ w130) (([([] : List Int)]) ++ acc111) := RL.app hl128 hl133
      obtain ⟨F137, O138, S139, h140⟩ := O120.putE hp136 (.lst (w125 ++ w130))
      have h7 := h7.mono S139
      have h15 := h15.mono S139
      have r32 := r32.mono S139
      have S29 := S29.trans S139
      have h42 := h42.mono S139
      have h50 := h50.mono S139
      have h55 := S139 _ _ h55
      have hl56 := hl56.mono S139
      have h123 := h123.mono S139
      have h127 := S139 _ _ h127
      have hl128 := hl128.mono S139
      have h132 := S139 _ _ h132
      have hl133 := hl133.mono S139
      have hl142 := hl142.mono S139
      have h141 := R.lst (a := (List Int)) h140 hl142
      obtain ⟨p143, w144, e145, h146, hl147⟩ := R.lst_ r32
      cases e145
      refine ⟨_, rfl, _, rfl, _, _, rfl, (SqLF O138.s h146), fun p148 hp149 => ?_⟩
      have hl155 : RL (a := (List Int)) F137 (cutV w144 (some (1 : Int)) none) (cutL st30 (some (1 : Int)) none) := RL.cutL hl147 (some (1 : Int)) none
      obtain ⟨F150, O151, S152, h153⟩ := O138.putE hp149 (.lst (cutV w144 (some (1 : Int)) none))
      have h7 := h7.mono S152
      have h15 := h15.mono S152
      have r32 := r32.mono S152
      have S29 := S29.trans S152
      have h42 := h42.mono S152
      have h50 := h50.mono S152
      have h55 := S152 _ _ h55
      have hl56 := hl56.mono S152
      have h123 := h123.mono S152
      have h127 := S152 _ _ h127
      have hl128 := hl128.mono S152
      have h132 := S152 _ _ h132
      have hl133 := hl133.mono S152
      have h141 := h141.mono S152
      have h146 := S152 _ _ h146
      have hl147 := hl147.mono S152
      have hl155 := hl155.mono S152
      have h154 := R.lst (a := (List Int)) h153 hl155
      obtain ⟨p156, w157, e158, h159, hl160⟩ := R.lst_ h141
      cases e158
      obtain ⟨p161, w162, e163, h164, hl165⟩ := R.lst_ h154
      cases e163
      obtain ⟨c166, hk⟩ := wp_chk hk
      refine ⟨_, _, _, _, rfl, rfl, (O151.s _ _ h159), (O151.s _ _ h164), (by rw [hl160.len, hl165.len]; exact le_line c166), fun p167 hp168 => ?_⟩
      have hl174 : RL (a := (List Int)) F150 (w157 ++ w162) ((([([] : List Int)]) ++ acc111) ++ (cutL st30 (some (1 : Int)) none)) := RL.app hl160 hl165
      obtain ⟨F169, O170, S171, h172⟩ := O151.putE hp168 (.lst (w157 ++ w162))
      have h7 := h7.mono S171
      have h15 := h15.mono S171
      have r32 := r32.mono S171
      have S29 := S29.trans S171
      have h42 := h42.mono S171
      have h50 := h50.mono S171
      have h55 := S171 _ _ h55
      have hl56 := hl56.mono S171
      have h123 := h123.mono S171
      have h127 := S171 _ _ h127
      have hl128 := hl128.mono S171
      have h132 := S171 _ _ h132
      have hl133 := hl133.mono S171
      have h141 := h141.mono S171
      have h146 := S171 _ _ h146
      have hl147 := hl147.mono S171
      have h154 := h154.mono S171
      have h159 := S171 _ _ h159
      have hl160 := hl160.mono S171
      have h164 := S171 _ _ h164
      have hl165 := hl165.mono S171
      have hl174 := hl174.mono S171
      have h173 := R.lst (a := (List Int)) h172 hl174
      refine ⟨[some (V.int x_many), some (V.ref p167), some (V.int y17), none], rfl, ?_⟩
      exact ⟨F169, ((([([] : List Int)]) ++ acc111) ++ (cutL st30 (some (1 : Int)) none)), V.ref p167, some (V.int y17), rfl, S29, O170, h173, hk⟩
    rintro sg175 H176 ⟨F183, st178, v180, t182, rfl, S177, O184, r181, hL179⟩
    rw [rangeD_end] at hL179
    have hk := hLd23 _ hL179
    have h7 := h7.mono S177
    have h15 := h15.mono S177
    refine ⟨_, rfl, ?_⟩
    exact hk _ _  O184.g  _ r181
abbrev s_law_tied : Stmt := top 31
theorem sc_law_tied : FnScope ["tree", "row", "a", "b", "length"] ["tree", "row"] (defScope s_law_tied) := ⟨rfl, rfl, rfl, by decide +kernel, rfl, by decide +kernel, by decide +kernel⟩
def m_law_tied (x_tree : ((List Int) × (List (T3 Int Int Int)))) (x_row : (List Int)) : M (Int) :=
compS (fun (y13 : (T3 Int Int Int)) (st30 : Unit) =>
if y13.a ∈ x_row then (
if y13.b ∈ x_row then (
.ok (some (1 : Int), ()))
else (
.ok (none, ())))
else (
.ok (none, ()))) x_tree.2 () >>= fun q68 =>
.ok (q68.1.length : Int)
def sp_law_tied (mg : Str → Option Value) : Sp := fun vs H Q E => ∃ (F : Hp) (v_tree : V) (x_tree : ((List Int) × (List (T3 Int Int Int)))) (v_row : V) (x_row : (List Int)), vs = [v_tree, v_row] ∧ Pre F [] H ∧ R (a := ((List Int) × (List (T3 Int Int Int)))) F v_tree x_tree ∧ R (a := (List Int)) F v_row x_row ∧
  wp (m_law_tied x_tree x_row) (fun r => ∀ (F' H' : Hp), Gr [] F H F' H' → Q (V.int r) H')
  (fun n => ∀ (C : Addr) (H' : Hp), mg (Str.ofString n) = some (.ref C) → Kp [] H H' → E (.ref C) none H')
set_option maxHeartbeats 20000000 in
theorem ok_law_tied (nb : Nb mg) (D : Df K mg "_law_tied" "_law_tied" s_law_tied ["tree", "row"]) : Ca P w K mg base "_law_tied" 1 ["tree", "row"] (sp_law_tied mg) := by
  refine Ca.mk' D sc_law_tied (fun vs H Q E h => ?_) (fun q_ f_ cdv A outer s H vs Q E hr h => ?_)
  · obtain ⟨F, _, _, _, _, rfl, _⟩ := h
    rfl
  · obtain ⟨F, v_tree, x_tree, v_row, x_row, rfl, P0, f_tree, f_row, hk⟩ := h
    have nd := sc_law_tied.nd
    have hu64 := hr.units
    have hu128 := hu128_of hr
    have O := P0.start
    refine ⟨_, (pss_one (ps_ret (pe_callB call_lenT (by rfl) nb.b_len PySem.boot_len (pa_cons (pe_lc (own := [("a", 2), ("b", 3), ("length", 4)]) (g := gTup K 3 (gCons (gName 2) (gCons (gName 3) (gCons (gName 4) (gNil))))) (tt := _) rfl nd (piListK (K := K) rfl (pe_ix (ixTupK (K := K) rfl) (pv 0) pe_int (fun _ _ => rfl))) (blkOk_by (own := [("a", 2), ("b", 3), ("length", 4)]) (N := ["tree", "row", "a", "b", "length"]) (sc := defScope s_law_tied) (by decide +kernel)) (fun _ _ _ _ _ => (pg_tup rfl (pgs_cons (pg_name (i := 2) nd rfl (Or.inl rfl)) (pgs_cons (pg_name (i := 3) nd rfl (Or.inl rfl)) (pgs_cons (pg_name (i := 4) nd rfl (Or.inl rfl)) pgs_nil))))) (fun _ _ _ _ _ => (pts_one (PW.pt (pw_and (pt_cmpR (op_inT Int hu64) (pv 2) (pv 1) rfl) (pw_and1 (pt_cmpR (op_inT Int hu64) (pv 3) (pv 1) rfl)))))) (fun _ _ _ _ _ => pe_int)) pa_nil)))), ?_⟩
    obtain ⟨p1, v4, v5, e2, h3, r6, r7⟩ := R.t2_ f_tree
    cases e2
    obtain ⟨p8, w9, e10, h11, hl12⟩ := R.lst_ r7
    cases e10
    obtain ⟨c18, L14, hL15, hLs16, hLd17⟩ := compS_L hk
    refine ⟨_, rfl, _, _, _, _, rfl, rfl, (SqTF O.s h3), rfl, _, rfl, ⟨_, (SqLF O.s h11)⟩, fun p19 hp20 => ?_⟩
    have z57 := O.was hp20
    refine lc_list (K := K) (xs := w9) (fun i H => ∃ (F_ : Hp) (st : Unit) (acc : List Int) (wa : List V), Same F F_ ∧ Ow _ F_ [(p19, .lst wa)] H ∧ RL F_ wa acc ∧ wa.length ≤ i ∧ L14 (List.drop i x_tree.2) acc st) ⟨F, (), [], [], Same.refl _, O.new hp20, RL.nil, Nat.zero_le _, hL15⟩ (fun i_ H_ _ hp_ => ?_) ?_ ?_
    · obtain ⟨_, _, _, _, hS_, hO_, _⟩ := hp_
      exact SqLF hO_.s (hS_ _ _ h11)
    · rintro i21 x22 H23 hi24 ⟨F29, st30, acc26, wa27, S31, O33, hl32, la28, hL15⟩
      have f_tree := f_tree.mono S31
      have f_row := f_row.mono S31
      have h3 := S31 _ _ h3
      have r6 := r6.mono S31
      have r7 := r7.mono S31
      have h11 := S31 _ _ h11
      have hl12 := hl12.mono S31
      obtain ⟨y13, e34, r35⟩ := RL.got hl12 hi24
      rw [drop_at e34] at hL15
      have hk := hLs16 _ _ _ _ hL15
      obtain ⟨p36, v39, v40, v41, e37, h38, r42, r43, r44⟩ := R.t3_ r35
      cases e37
      obtain rfl := R.int_ r42
      obtain rfl := R.int_ r43
      obtain rfl := R.int_ r44
      obtain ⟨p45, w46, e47, h48, hl49⟩ := R.lst_ f_row
      cases e47
      refine ⟨_, _, rfl, (SqTF O33.s h38), rfl, _, _, rfl, _, _, rfl, _, _, rfl, rfl, rfl, _, rfl, _, rfl, _, _, _, _, R.int, rfl, (.inl (O33.s _ _ h48)), (RL.mono (hl49) O33.s), _, rfl, ?_⟩
      refine iteD (fun q50 => ?_) (fun q50 => ?_)
      · have hk := wp_if hk q50
        obtain ⟨p51, w52, e53, h54, hl55⟩ := R.lst_ f_row
        cases e53
        refine ⟨_, rfl, _, rfl, _, _, _, _, R.int, rfl, (.inl (O33.s _ _ h54)), (RL.mono (hl55) O33.s), _, rfl, ?_⟩
        refine iteD (fun q56 => ?_) (fun q56 => ?_)
        · have hk := wp_if hk q56
          refine ⟨_, (O33.at 0 rfl), (comp_len la28 hi24 hl12.len c18), ?_⟩
          exact ⟨F29, (), acc26 ++ [(1 : Int)], wa27 ++ [V.int (1 : Int)], S31, O33.set 0 (.lst (wa27 ++ [V.int (1 : Int)])) rfl, RL.snoc hl32 R.int, by rw [List.length_append]; exact Nat.succ_le_succ la28, hk⟩
        · have hk := wp_el hk q56
          exact ⟨F29, (), acc26, wa27, S31, O33, hl32, Nat.le_succ_of_le la28, hk⟩
      · have hk := wp_el hk q50
        refine iteF ?_
        exact ⟨F29, (), acc26, wa27, S31, O33, hl32, Nat.le_succ_of_le la28, hk⟩
    rintro H58 ⟨F59, st60, acc61, wa62, S63, O64, hl65, la66, hL67⟩
    rw [drop_end hl12.len] at hL67
    have hk := hLd17 _ _ hL67
    have f_tree := f_tree.mono S63
    have f_row := f_row.mono S63
    have h3 := S63 _ _ h3
    have r6 := r6.mono S63
    have r7 := r7.mono S63
    have h11 := S63 _ _ h11
    have hl12 := hl12.mono S63
    obtain ⟨F69, O70, S71, h72⟩ := O64.frzE 0 rfl z57
    have f_tree := f_tree.mono S71
    have f_row := f_row.mono S71
    have h3 := S71 _ _ h3
    have r6 := r6.mono S71
    have r7 := r7.mono S71
    have h11 := S71 _ _ h11
    have hl12 := hl12.mono S71
    have hl65 := hl65.mono S71
    have h73 := R.lst (a := Int) h72 hl65
    obtain ⟨p74, w75, e76, h77, hl78⟩ := R.lst_ h73
    cases e76
    refine ⟨_, _, _, rfl, (.inl (O70.s _ _ h77)), hl78.len, ?_⟩
    exact hk _ _  O70.g 
abbrev s_law_worth_of : Stmt := top 32
theorem sc_law_worth_of : FnScope ["tree", "row", "place"] ["tree", "row"] (defScope s_law_worth_of) := ⟨rfl, rfl, rfl, by decide +kernel, rfl, by decide +kernel, by decide +kernel⟩
def m_law_worth_of (x_tree : ((List Int) × (List (T3 Int Int Int)))) (x_row : (List Int)) : M (Int) :=
compS (fun (y6 : Int) (st23 : Unit) =>
opt (atI x_tree.1 y6) >>= fun y41 =>
.ok (some y41, ())) x_row () >>= fun q57 =>
.ok (List.sum q57.1)
def sp_law_worth_of (mg : Str → Option Value) : Sp := fun vs H Q E => ∃ (F : Hp) (v_tree : V) (x_tree : ((List Int) × (List (T3 Int Int Int)))) (v_row : V) (x_row : (List Int)), vs = [v_tree, v_row] ∧ Pre F [] H ∧ R (a := ((List Int) × (List (T3 Int Int Int)))) F v_tree x_tree ∧ R (a := (List Int)) F v_row x_row ∧
  wp (m_law_worth_of x_tree x_row) (fun r => ∀ (F' H' : Hp), Gr [] F H F' H' → Q (V.int r) H')
  (fun n => ∀ (C : Addr) (H' : Hp), mg (Str.ofString n) = some (.ref C) → Kp [] H H' → E (.ref C) none H')
set_option maxHeartbeats 20000000 in
theorem ok_law_worth_of (nb : Nb mg) (D : Df K mg "_law_worth_of" "_law_worth_of" s_law_worth_of ["tree", "row"]) : Ca P w K mg base "_law_worth_of" 1 ["tree", "row"] (sp_law_worth_of mg) := by
  refine Ca.mk' D sc_law_worth_of (fun vs H Q E h => ?_) (fun q_ f_ cdv A outer s H vs Q E hr h => ?_)
  · obtain ⟨F, _, _, _, _, rfl, _⟩ := h
    rfl
  · obtain ⟨F, v_tree, x_tree, v_row, x_row, rfl, P0, f_tree, f_row, hk⟩ := h
    have nd := sc_law_worth_of.nd
    have hu64 := hr.units
    have hu128 := hu128_of hr
    have O := P0.start
    refine ⟨_, (pss_one (ps_ret (pe_callB (cr_sumK (K := K) rfl rfl) (by rfl) nb.b_sum (by decide +kernel) (pa_cons (pe_lc (own := [("place", 2)]) (g := gName 2) (tt := _) rfl nd (piListK (K := K) rfl (pv 1)) (blkOk_by (own := [("place", 2)]) (N := ["tree", "row", "place"]) (sc := defScope s_law_worth_of) (by decide +kernel)) (fun _ _ _ _ _ => (pg_name (i := 2) nd rfl (Or.inl rfl))) (fun _ _ _ _ _ => pts_nil) (fun _ _ _ _ _ => (pe_ix (ixListK (K := K) rfl) (pe_ix (ixTupK (K := K) rfl) (pv 0) pe_int (fun _ _ => rfl)) (pv 2) (fun _ _ => rfl)))) pa_nil)))), ?_⟩
    obtain ⟨p1, w2, e3, h4, hl5⟩ := R.lst_ f_row
    cases e3
    obtain ⟨c11, L7, hL8, hLs9, hLd10⟩ := compS_L hk
    refine ⟨_, rfl, _, rfl, ⟨_, (SqLF O.s h4)⟩, fun p12 hp13 => ?_⟩
    have z46 := O.was hp13
    refine lc_list (K := K) (xs := w2) (fun i H => ∃ (F_ : Hp) (st : Unit) (acc : List Int) (wa : List V), Same F F_ ∧ Ow _ F_ [(p12, .lst wa)] H ∧ RL F_ wa acc ∧ wa.length ≤ i ∧ L7 (List.drop i x_row) acc st) ⟨F, (), [], [], Same.refl _, O.new hp13, RL.nil, Nat.zero_le _, hL8⟩ (fun i_ H_ _ hp_ => ?_) ?_ ?_
    · obtain ⟨_, _, _, _, hS_, hO_, _⟩ := hp_
      exact SqLF hO_.s (hS_ _ _ h4)
    · rintro i14 x15 H16 hi17 ⟨F22, st23, acc19, wa20, S24, O26, hl25, la21, hL8⟩
      have f_tree := f_tree.mono S24
      have f_row := f_row.mono S24
      have h4 := S24 _ _ h4
      have hl5 := hl5.mono S24
      obtain ⟨y6, e27, r28⟩ := RL.got hl5 hi17
      rw [drop_at e27] at hL8
      have hk := hLs9 _ _ _ _ hL8
      obtain rfl := R.int_ r28
      refine ⟨rfl, ?_⟩
      obtain ⟨p29, v32, v33, e30, h31, r34, r35⟩ := R.t2_ f_tree
      cases e30
      obtain ⟨p36, w37, e38, h39, hl40⟩ := R.lst_ r34
      cases e38
      obtain ⟨y41, e42, hk⟩ := wp_opt hk
      obtain ⟨w43, e44, r45⟩ := hl40.atI e42
      obtain rfl := R.int_ r45
      refine ⟨_, rfl, _, _, _, _, rfl, rfl, (SqTF O26.s h31), rfl, _, rfl, _, _, _, _, rfl, rfl, (SqLF O26.s h39), e44, _, (O26.at 0 rfl), (comp_len la21 hi17 hl5.len c11), ?_⟩
      exact ⟨F22, (), acc19 ++ [y41], wa20 ++ [V.int y41], S24, O26.set 0 (.lst (wa20 ++ [V.int y41])) rfl, RL.snoc hl25 R.int, by rw [List.length_append]; exact Nat.succ_le_succ la21, hk⟩
    rintro H47 ⟨F48, st49, acc50, wa51, S52, O53, hl54, la55, hL56⟩
    rw [drop_end hl5.len] at hL56
    have hk := hLd10 _ _ hL56
    have f_tree := f_tree.mono S52
    have f_row := f_row.mono S52
    have h4 := S52 _ _ h4
    have hl5 := hl5.mono S52
    obtain ⟨F58, O59, S60, h61⟩ := O53.frzE 0 rfl z46
    have f_tree := f_tree.mono S60
    have f_row := f_row.mono S60
    have h4 := S60 _ _ h4
    have hl5 := hl5.mono S60
    have hl54 := hl54.mono S60
    have h62 := R.lst (a := Int) h61 hl54
    obtain ⟨p63, w64, e65, h66, hl67⟩ := R.lst_ h62
    cases e65
    refine ⟨_, acc50, rfl, (by rw [← RL.ints hl67]; exact (SqLF O59.s h66)), ?_⟩
    exact hk _ _  O59.g 
abbrev s_law_copied : Stmt := top 33
theorem sc_law_copied : FnScope ["tree"] ["tree"] (defScope s_law_copied) := ⟨rfl, rfl, rfl, by decide +kernel, rfl, by decide +kernel, by decide +kernel⟩
def m_law_copied (x_tree : ((List Int) × (List (T3 Int Int Int)))) : M (((List Int) × (List (T3 Int Int Int)))) :=
.ok (x_tree.1, x_tree.2)
def sp_law_copied (mg : Str → Option Value) : Sp := fun vs H Q E => ∃ (F : Hp) (v_tree : V) (x_tree : ((List Int) × (List (T3 Int Int Int)))), vs = [v_tree] ∧ Pre F [] H ∧ R (a := ((List Int) × (List (T3 Int Int Int)))) F v_tree x_tree ∧
  wp (m_law_copied x_tree) (fun r => ∀ (F' H' : Hp), Gr [] F H F' H' → ∀ v : V, R (a := ((List Int) × (List (T3 Int Int Int)))) F' v r → Q v H')
  (fun n => ∀ (C : Addr) (H' : Hp), mg (Str.ofString n) = some (.ref C) → Kp [] H H' → E (.ref C) none H')
set_option maxHeartbeats 20000000 in
theorem ok_law_copied (nb : Nb mg) (D : Df K mg "_law_copied" "_law_copied" s_law_copied ["tree"]) : Ca P w K mg base "_law_copied" 1 ["tree"] (sp_law_copied mg) := by
  refine Ca.mk' D sc_law_copied (fun vs H Q E h => ?_) (fun q_ f_ cdv A outer s H vs Q E hr h => ?_)
  · obtain ⟨F, _, _, rfl, _⟩ := h
    rfl
  · obtain ⟨F, v_tree, x_tree, rfl, P0, f_tree, hk⟩ := h
    have nd := sc_law_copied.nd
    have hu64 := hr.units
    have hu128 := hu128_of hr
    have O := P0.start
    refine ⟨_, (pss_one (ps_ret (pe_tup (pa_cons (pe_callTy (listOfK (K := K) rfl) (by rfl) nb.b_list (by decide +kernel) (pa_cons (pe_ix (ixTupK (K := K) rfl) (pv 0) pe_int (fun _ _ => rfl)) pa_nil)) (pa_cons (pe_callTy (listOfK (K := K) rfl) (by rfl) nb.b_list (by decide +kernel) (pa_cons (pe_ix (ixTupK (K := K) rfl) (pv 0) pe_int (fun _ _ => rfl)) pa_nil)) pa_nil))))), ?_⟩
    obtain ⟨p1, v4, v5, e2, h3, r6, r7⟩ := R.t2_ f_tree
    cases e2
    obtain ⟨p8, w9, e10, h11, hl12⟩ := R.lst_ r6
    cases e10
    refine ⟨_, rfl, _, _, _, _, rfl, rfl, (SqTF O.s h3), rfl, _, _, rfl, (.inl (SqLF O.s h11)), fun p13 hp14 => ?_⟩
    have hl20 : RL (a := Int) F w9 x_tree.1 := hl12
    obtain ⟨F15, O16, S17, h18⟩ := O.putE hp14 (.lst w9)
    have f_tree := f_tree.mono S17
    have h3 := S17 _ _ h3
    have r6 := r6.mono S17
    have r7 := r7.mono S17
    have h11 := S17 _ _ h11
    have hl12 := hl12.mono S17
    have hl20 := hl20.mono S17
    have h19 := R.lst (a := Int) h18 hl20
    obtain ⟨p21, w22, e23, h24, hl25⟩ := R.lst_ r7
    cases e23
    refine ⟨_, rfl, _, _, _, _, rfl, rfl, (SqTF O16.s h3), rfl, _, _, rfl, (.inl (SqLF O16.s h24)), fun p26 hp27 => ?_⟩
    have hl33 : RL (a := (T3 Int Int Int)) F15 w22 x_tree.2 := hl25
    obtain ⟨F28, O29, S30, h31⟩ := O16.putE hp27 (.lst w22)
    have f_tree := f_tree.mono S30
    have h3 := S30 _ _ h3
    have r6 := r6.mono S30
    have r7 := r7.mono S30
    have h11 := S30 _ _ h11
    have hl12 := hl12.mono S30
    have h19 := h19.mono S30
    have h24 := S30 _ _ h24
    have hl25 := hl25.mono S30
    have hl33 := hl33.mono S30
    have h32 := R.lst (a := (T3 Int Int Int)) h31 hl33
    refine ⟨(by show 2 ≤ sizeLine; decide), fun p34 hp35 => ?_⟩
    obtain ⟨F36, O37, S38, h39⟩ := O29.putE hp35 (.tup [V.ref p13, V.ref p26])
    have f_tree := f_tree.mono S38
    have h3 := S38 _ _ h3
    have r6 := r6.mono S38
    have r7 := r7.mono S38
    have h11 := S38 _ _ h11
    have hl12 := hl12.mono S38
    have h19 := h19.mono S38
    have h24 := S38 _ _ h24
    have hl25 := hl25.mono S38
    have h32 := h32.mono S38
    have h40 : R (a := ((List Int) × (List (T3 Int Int Int)))) F36 (.ref p34) (x_tree.1, x_tree.2) := R.t2 h39 h19 h32
    exact hk _ _  O37.g  _ h40
abbrev s_law_best : Stmt := top 34
theorem sc_law_best : FnScope ["tree", "lists", "best", "row"] ["tree", "lists"] (defScope s_law_best) := ⟨rfl, rfl, rfl, by decide +kernel, rfl, by decide +kernel, by decide +kernel⟩
def m_law_best (x_tree : ((List Int) × (List (T3 Int Int Int)))) (x_lists : (List (List Int))) : M ((Option (List Int))) :=
loopN (fun (y6 : (List Int)) (st17 : (Option (List Int))) =>
if (Option.isNone st17) = true then (
.ok (some y6))
else (
opt st17 >>= fun y26 =>
m_law_worth_of x_tree y6 >>= fun r29 =>
m_law_worth_of x_tree y26 >>= fun r35 =>
if r35 < r29 then (
.ok (some y6))
else (
.ok (some y26)))) x_lists (none : (Option (List Int))) >>= fun st45 =>
.ok st45
def sp_law_best (mg : Str → Option Value) : Sp := fun vs H Q E => ∃ (F : Hp) (v_tree : V) (x_tree : ((List Int) × (List (T3 Int Int Int)))) (v_lists : V) (x_lists : (List (List Int))), vs = [v_tree, v_lists] ∧ Pre F [] H ∧ R (a := ((List Int) × (List (T3 Int Int Int)))) F v_tree x_tree ∧ R (a := (List (List Int))) F v_lists x_lists ∧
  wp (m_law_best x_tree x_lists) (fun r => ∀ (F' H' : Hp), Gr [] F H F' H' → ∀ v : V, R (a := (Option (List Int))) F' v r → Q v H')
  (fun n => ∀ (C : Addr) (H' : Hp), mg (Str.ofString n) = some (.ref C) → Kp [] H H' → E (.ref C) none H')
set_option maxHeartbeats 20000000 in
theorem ok_law_best (nb : Nb mg) (C_law_worth_of : Ca P w K mg base "_law_worth_of" 1 ["tree", "row"] (sp_law_worth_of mg)) (D : Df K mg "_law_best" "_law_best" s_law_best ["tree", "lists"]) : Ca P w K mg base "_law_best" 2 ["tree", "lists"] (sp_law_best mg) := by
  obtain ⟨fa_law_worth_of, fd_law_worth_of, G_law_worth_of, M_law_worth_of, K_law_worth_of, B_law_worth_of⟩ := C_law_worth_of.ex
  refine Ca.mk' D sc_law_best (fun vs H Q E h => ?_) (fun q_ f_ cdv A outer s H vs Q E hr h => ?_)
  · obtain ⟨F, _, _, _, _, rfl, _⟩ := h
    rfl
  · obtain ⟨F, v_tree, x_tree, v_lists, x_lists, rfl, P0, f_tree, f_lists, hk⟩ := h
    have nd := sc_law_best.nd
    have hu64 := hr.units
    have hu128 := hu128_of hr
    have O := P0.start
    refine ⟨_, (pss_cons (ps_toN (ps_set (i := 2) nd rfl (Or.inl rfl) pe_non))
  (pss_cons (ps_for (passes_of rfl) rfl (piListK (K := K) rfl (pv 1)) (pg_name (i := 3) nd rfl (Or.inl rfl)) (pss_one (ps_if (PW.pt (pw_or (pt_cmpR op_isN (pv 2) pe_non (nomark _)) (pw_or1 (pt_cmpR op_gt (pe_call G_law_worth_of (hr.mono (by decide)) rfl M_law_worth_of K_law_worth_of B_law_worth_of .nil (passes_call (takes_of rfl rfl rfl rfl) fun _ _ _ _ h => h) (pa_cons (pv 0) (pa_cons (pv 3) pa_nil))) (pe_call G_law_worth_of (hr.mono (by decide)) rfl M_law_worth_of K_law_worth_of B_law_worth_of .nil (passes_call (takes_of rfl rfl rfl rfl) fun _ _ _ _ h => h) (pa_cons (pv 0) (pa_cons (pv 2) pa_nil))) (nomark _))))) (pss_one (ps_toN (ps_set (i := 2) nd rfl (Or.inl rfl) (pv 3)))) pss_nil)))
  (pss_one (ps_ret (pv 2))))), ?_⟩
    obtain ⟨p1, w2, e3, h4, hl5⟩ := R.lst_ f_lists
    cases e3
    obtain ⟨L7, hL8, hLs9, hLd10⟩ := loopN_L hk
    refine ⟨[some v_tree, some (V.ref p1), some V.non, none], rfl, _, rfl, _, rfl, ⟨_, (SqLF O.s h4)⟩, ?_⟩
    refine for_list (K := K) (xs := w2) (fun i σ H_ => ∃ (F_ : Hp) (st : (Option (List Int))) (v_0 : V) (t_0 : Option V), σ = [some v_tree, some (V.ref p1), some v_0, t_0] ∧ Same F F_ ∧ Ow _ F_ [] H_ ∧ R (a := (Option (List Int))) F_ v_0 st ∧ L7 (List.drop i x_lists) st) ⟨F, (none : (Option (List Int))), V.non, none, rfl, Same.refl _, O, R.non, hL8⟩ (fun i_ σ_ H_ _ hp_ => ?_) ?_ ?_
    · obtain ⟨_, _, _, _, _, hS_, hO_, _⟩ := hp_
      exact SqLF hO_.s (hS_ _ _ h4)
    · rintro i11 x12 sg13 H14 hi15 ⟨F21, st17, v18, t20, rfl, S16, O22, r19, hL8⟩
      have f_tree := f_tree.mono S16
      have f_lists := f_lists.mono S16
      have h4 := S16 _ _ h4
      have hl5 := hl5.mono S16
      obtain ⟨y6, e23, r24⟩ := RL.got hl5 hi15
      rw [drop_at e23] at hL8
      have hk := hLs9 _ _ _ hL8
      refine ⟨_, rfl, rfl, _, rfl, ?_⟩
      rw [isN_opt (F := F21) (r19)]
      refine iteB (fun q25 => ?_) (fun q25 => ?_)
      · have hk := wp_if hk q25
        refine iteT ?_
        refine ⟨_, rfl, [some v_tree, some (V.ref p1), some x12, some x12], rfl, ?_⟩
        exact ⟨F21, (some y6), x12, some x12, rfl, S16, O22, (R.jst r24), hk⟩
      · have hk := wp_el hk q25
        obtain ⟨y26, e27, hk⟩ := wp_opt hk
        have r28 : R (a := (List Int)) F21 v18 y26 := R.jst_ (by rw [← e27]; exact r19)
        refine ⟨_, rfl, _, rfl, _, _, _, _, _, rfl, O22.pre0, f_tree, r24, wp_call hk (fun r29 er30 hk F31 H32 g33 => ?_) (fun n hn C H1 hC kp => hn C H1 hC (O22.kp0 kp))⟩
        have O34 := O22.call0 g33
        have S_ := g33.f
        have f_tree := f_tree.mono S_
        have f_lists := f_lists.mono S_
        have h4 := S_ _ _ h4
        have hl5 := hl5.mono S_
        have r19 := r19.mono S_
        have S16 := S16.trans S_
        have r24 := r24.mono S_
        have r28 := r28.mono S_
        refine ⟨_, rfl, _, rfl, _, _, _, _, _, rfl, O34.pre0, f_tree, r28, wp_call hk (fun r35 er36 hk F37 H38 g39 => ?_) (fun n hn C H1 hC kp => hn C H1 hC (O34.kp0 kp))⟩
        have O40 := O34.call0 g39
        have S_ := g39.f
        have f_tree := f_tree.mono S_
        have f_lists := f_lists.mono S_
        have h4 := S_ _ _ h4
        have hl5 := hl5.mono S_
        have r19 := r19.mono S_
        have S16 := S16.trans S_
        have r24 := r24.mono S_
        have r28 := r28.mono S_
        refine ⟨_, _, rfl, rfl, _, rfl, ?_⟩
        refine iteD (fun q41 => ?_) (fun q41 => ?_)
        · have hk := wp_if hk q41
          refine ⟨_, rfl, [some v_tree, some (V.ref p1), some x12, some x12], rfl, ?_⟩
          exact ⟨F37, (some y6), x12, some x12, rfl, S16, O40, (R.jst r24), hk⟩
        · have hk := wp_el hk q41
          exact ⟨F37, (some y26), v18, some x12, rfl, S16, O40, (R.jst r28), hk⟩
    rintro sg42 H43 ⟨F50, st45, v47, t49, rfl, S44, O51, r48, hL46⟩
    rw [drop_end hl5.len] at hL46
    have hk := hLd10 _ hL46
    have f_tree := f_tree.mono S44
    have f_lists := f_lists.mono S44
    have h4 := S44 _ _ h4
    have hl5 := hl5.mono S44
    refine ⟨_, rfl, ?_⟩
    exact hk _ _  O51.g  _ r48
abbrev s_law_refused : Stmt := top 35
theorem sc_law_refused : FnScope ["tree", "seat", "told", "e"] ["tree", "seat"] (defScope s_law_refused) := ⟨rfl, rfl, rfl, by decide +kernel, rfl, by decide +kernel, by decide +kernel⟩
def m_law_refused (x_tree : ((List Int) × (List (T3 Int Int Int)))) (x_seat : Int) : M (Bool) :=
tryK ["NoPlace"] (
m_best_piece x_tree x_seat >>= fun r7 =>
.ok ()) (
.ok (decide (([] : List Bool) = ([true, true, false])))) (fun n_ => if n_ = "NoPlace" then (
appL ([true, true]) false >>= fun _ =>
.ok (decide ((([true, true]) ++ [false]) = ([true, true, false]))))
else (
bad))
def sp_law_refused (mg : Str → Option Value) : Sp := fun vs H Q E => ∃ (F : Hp) (v_tree : V) (x_tree : ((List Int) × (List (T3 Int Int Int)))) (x_seat : Int), vs = [v_tree, V.int x_seat] ∧ Pre F [] H ∧ R (a := ((List Int) × (List (T3 Int Int Int)))) F v_tree x_tree ∧
  wp (m_law_refused x_tree x_seat) (fun r => ∀ (F' H' : Hp), Gr [] F H F' H' → Q (V.bl r) H')
  (fun n => ∀ (C : Addr) (H' : Hp), mg (Str.ofString n) = some (.ref C) → Kp [] H H' → E (.ref C) none H')
set_option maxHeartbeats 20000000 in
theorem ok_law_refused (nb : Nb mg) (C_best_piece : Ca P w K mg base "best_piece" 4 ["tree", "place"] (sp_best_piece mg)) (EX : ExAll K mg) (D : Df K mg "_law_refused" "_law_refused" s_law_refused ["tree", "seat"]) : Ca P w K mg base "_law_refused" 5 ["tree", "seat"] (sp_law_refused mg) := by
  obtain ⟨fa_best_piece, fd_best_piece, G_best_piece, M_best_piece, K_best_piece, B_best_piece⟩ := C_best_piece.ex
  obtain ⟨C_SeatError, C_NoPlace, C_NoLength, C_NoName, C_NoOrder, C_NoPaper, C_NoRule, C_NoText, C_NoTie, C_NoTree, XX⟩ := EX.ex
  refine Ca.mk' D sc_law_refused (fun vs H Q E h => ?_) (fun q_ f_ cdv A outer s H vs Q E hr h => ?_)
  · obtain ⟨F, _, _, _, rfl, _⟩ := h
    rfl
  · obtain ⟨F, v_tree, x_tree, x_seat, rfl, P0, f_tree, hk⟩ := h
    have nd := sc_law_refused.nd
    have hu64 := hr.units
    have hu128 := hu128_of hr
    have O := P0.start
    refine ⟨_, (pss_cons (ps_toN (ps_set (i := 2) nd rfl (Or.inl rfl) (pe_lst pa_nil)))
  (pss_cons (ps_try_tell (i := 3) rfl rfl rfl nd rfl rfl ⟨by rfl, by decide +kernel, .inl XX.g_SeatError⟩ (takes_of rfl rfl rfl rfl) (fun W_ pn_ xe_ tk_ pas_ => (pss_one (ps_expr (pe_callW G_best_piece (hr.mono (by decide)) rfl M_best_piece K_best_piece B_best_piece tk_ (pa_cons (pv 0) (pa_cons (pv 1) pa_nil)))))) (fun a_ pn_ => (pss_cons (ps_toN (ps_set (i := 2) nd rfl (Or.inl rfl) (pe_lst (pa_cons (pe_callB (isuK (K := K) rfl) (by rfl) nb.b_isinstance (by decide +kernel) (pa_cons (pv 3) (pa_cons (C8.pe_gc (v := .ref C_NoPlace) (by rfl) ⟨_, XX.g_NoPlace, rfl⟩) pa_nil))) (pa_cons (pe_callB (isuK (K := K) rfl) (by rfl) nb.b_isinstance (by decide +kernel) (pa_cons (pv 3) (pa_cons (pe_bltn (v := .ty "ValueError") (by rfl) nb.b_ValueError (by decide +kernel) rfl) pa_nil))) pa_nil)))))
  (pss_one (ps_expr (bmK (K := K) rfl (pe_bm PySem.F.plainAttrs_list PySem.F.slot_list_append PySem.F.type_list_append mt_append (pv 2) (pa_cons (pe_callB (isutK (K := K) rfl) (by rfl) nb.b_isinstance (by decide +kernel) (pa_cons (pv 3) (pa_cons (pe_tup (pa_cons (C8.pe_gc (v := .ref C_NoLength) (by rfl) ⟨_, XX.g_NoLength, rfl⟩) (pa_cons (C8.pe_gc (v := .ref C_NoName) (by rfl) ⟨_, XX.g_NoName, rfl⟩) (pa_cons (C8.pe_gc (v := .ref C_NoOrder) (by rfl) ⟨_, XX.g_NoOrder, rfl⟩) (pa_cons (C8.pe_gc (v := .ref C_NoPaper) (by rfl) ⟨_, XX.g_NoPaper, rfl⟩) (pa_cons (C8.pe_gc (v := .ref C_NoRule) (by rfl) ⟨_, XX.g_NoRule, rfl⟩) (pa_cons (C8.pe_gc (v := .ref C_NoText) (by rfl) ⟨_, XX.g_NoText, rfl⟩) (pa_cons (C8.pe_gc (v := .ref C_NoTie) (by rfl) ⟨_, XX.g_NoTie, rfl⟩) (pa_cons (C8.pe_gc (v := .ref C_NoTree) (by rfl) ⟨_, XX.g_NoTree, rfl⟩) pa_nil))))))))) pa_nil))) pa_nil))))))))
  (pss_one (ps_ret (pe_cmpR (op_eqT (List Bool) hu64) (pv 2) (pe_lst (pa_cons pe_bl (pa_cons pe_bl (pa_cons pe_bl pa_nil)))) (nomark _)))))), ?_⟩
    refine ⟨(by show 0 ≤ sizeLine; decide), fun p2 hp3 => ?_⟩
    have hl5 : RL (a := Bool) F ([]) ([] : List Bool) := RL.nil
    have z6 := O.was hp3
    have O4 := O.new (o := .lst ([])) hp3
    have hk := wp_tryK hk
    refine ⟨[some v_tree, some (V.int x_seat), some (V.ref p2), none], rfl, _, rfl, _, rfl, _, _, _, _, rfl, O4.pre0, f_tree, wp_call hk (fun r7 er8 hk F9 H10 g11 p12 w13 hn14 hf15 h16 hl17 => ?_) (fun n_ hn_ C_ H1_ hC_ kp_ => ?_)⟩
    · have O18 := O4.call0 g11
      have S_ := g11.f
      have f_tree := f_tree.mono S_
      have hl5 := hl5.mono S_
      have O19 := O4.got O18 rfl hn14 hf15 h16
      have z20 := O4.was hn14
      obtain ⟨F21, O22, S23, h24⟩ := O19.frzE 0 rfl z20
      have f_tree := f_tree.mono S23
      have hl5 := hl5.mono S23
      have hl17 := hl17.mono S23
      have h25 := R.lst (a := Int) h24 hl17
      have hk := wp_okE hk
      refine ⟨_, rfl, (by show 3 ≤ sizeLine; decide), fun p26 hp27 => ?_⟩
      have hl33 : RL (a := Bool) F21 ([V.bl true, V.bl true, V.bl false]) ([true, true, false]) := RL.cons R.bl (RL.cons R.bl (RL.cons R.bl RL.nil))
      obtain ⟨F28, O29, S30, h31⟩ := O22.putE hp27 (.lst ([V.bl true, V.bl true, V.bl false]))
      have f_tree := f_tree.mono S30
      have hl5 := hl5.mono S30
      have h25 := h25.mono S30
      have hl33 := hl33.mono S30
      have h32 := R.lst (a := Bool) h31 hl33
      refine ⟨_, _, (R.lst (a := Bool) (O29.at 0 rfl) (hl5.mono O29.s)), (R.mono h32 O29.s), ?_⟩
      exact hk _ _  O29.g 
    · obtain ⟨hm_, hk⟩ := hn_
      obtain rfl := mem1 hm_
      have hk := wp_if hk rfl
      have eC_ := XX.g_NoPlace.symm.trans hC_
      cases eC_
      have O34 := O4.exc kp_
      refine ⟨true, PySem.W.exm_ref XX.b_SeatError XX.d_SeatError XX.t_SeatError XX.s_NoPlace_SeatError, fun _ a35 ha36 => ?_, fun z => nomatch z⟩
      obtain ⟨F37, O38, S39, h40⟩ := O34.putE ha36 (excO (.ref C_NoPlace) none a35)
      have f_tree := f_tree.mono S39
      have hl5 := hl5.mono S39
      refine ⟨_, rfl, _, _, _, _, true, rfl, (.own _), (.exc (O38.s _ _ h40) XX.e_NoPlace), (kit_own XX.d_NoPlace XX.t_NoPlace XX.s_NoPlace_NoPlace XX.s_NoPlace_NoPlace), _, rfl, _, _, _, _, true, rfl, (.ty _), (.exc (O38.s _ _ h40) XX.e_NoPlace), (kit_blt (by decide +kernel) XX.v_NoPlace), (by show 2 ≤ sizeLine; decide), fun p44 hp45 => ?_⟩
      have hl47 : RL (a := Bool) F37 ([V.bl true, V.bl true]) ([true, true]) := RL.cons R.bl (RL.cons R.bl RL.nil)
      have z48 := O38.was hp45
      have O46 := O38.new (o := .lst ([V.bl true, V.bl true])) hp45
      refine ⟨[some v_tree, some (V.int x_seat), some (V.ref p44), some (V.ref a35)], rfl, _, rfl, (.inl ⟨rfl, _, SqL.of (O46.at 0 rfl)⟩), _, rfl, (by show 8 ≤ sizeLine; decide), fun p49 hp50 => ?_⟩
      obtain ⟨F51, O52, S53, h54⟩ := O46.putE hp50 (.tup [V.ref C_NoLength, V.ref C_NoName, V.ref C_NoOrder, V.ref C_NoPaper, V.ref C_NoRule, V.ref C_NoText, V.ref C_NoTie, V.ref C_NoTree])
      have f_tree := f_tree.mono S53
      have hl5 := hl5.mono S53
      have h40 := S53 _ _ h40
      have hl47 := hl47.mono S53
      obtain ⟨c55, hk⟩ := wp_appL hk
      refine ⟨_, _, _, _, _, false, rfl, (O52.s _ _ h54), (.cons (.own _) (.cons (.own _) (.cons (.own _) (.cons (.own _) (.cons (.own _) (.cons (.own _) (.cons (.own _) (.cons (.own _) .nil)))))))), (.exc (O52.s _ _ h40) XX.e_NoPlace), (any_no (kit_own XX.d_NoLength XX.t_NoLength XX.s_NoPlace_NoLength XX.s_NoLength_NoLength) (any_no (kit_own XX.d_NoName XX.t_NoName XX.s_NoPlace_NoName XX.s_NoName_NoName) (any_no (kit_own XX.d_NoOrder XX.t_NoOrder XX.s_NoPlace_NoOrder XX.s_NoOrder_NoOrder) (any_no (kit_own XX.d_NoPaper XX.t_NoPaper XX.s_NoPlace_NoPaper XX.s_NoPaper_NoPaper) (any_no (kit_own XX.d_NoRule XX.t_NoRule XX.s_NoPlace_NoRule XX.s_NoRule_NoRule) (any_no (kit_own XX.d_NoText XX.t_NoText XX.s_NoPlace_NoText XX.s_NoText_NoText) (any_no (kit_own XX.d_NoTie XX.t_NoTie XX.s_NoPlace_NoTie XX.s_NoTie_NoTie) (any_no (kit_own XX.d_NoTree XX.t_NoTree XX.s_NoPlace_NoTree XX.s_NoTree_NoTree) kitAny_nil)))))))), _, _, _, rfl, rfl, (O52.at 0 rfl), (by rw [hl47.len]; exact c55), ?_⟩
      have O57 := O52.set 0 (.lst (([V.bl true, V.bl true]) ++ [V.bl false])) rfl
      have hl58 : RL (a := Bool) F51 (([V.bl true, V.bl true]) ++ [V.bl false]) (([true, true]) ++ [false]) := RL.snoc hl47 R.bl
      refine ⟨_, rfl, (by show 3 ≤ sizeLine; decide), fun p59 hp60 => ?_⟩
      have hl66 : RL (a := Bool) F51 ([V.bl true, V.bl true, V.bl false]) ([true, true, false]) := RL.cons R.bl (RL.cons R.bl (RL.cons R.bl RL.nil))
      obtain ⟨F61, O62, S63, h64⟩ := O57.putE hp60 (.lst ([V.bl true, V.bl true, V.bl false]))
      have f_tree := f_tree.mono S63
      have hl5 := hl5.mono S63
      have h40 := S63 _ _ h40
      have h54 := S63 _ _ h54
      have hl58 := hl58.mono S63
      have hl66 := hl66.mono S63
      have h65 := R.lst (a := Bool) h64 hl66
      refine ⟨_, _, (R.lst (a := Bool) (O62.at 0 rfl) (hl58.mono O62.s)), (R.mono h65 O62.s), ?_⟩
      exact hk _ _  O62.g 
abbrev s_law_told : Stmt := top 36
theorem sc_law_told : FnScope ["found", "due", "place"] ["found", "due"] (defScope s_law_told) := ⟨rfl, rfl, rfl, by decide +kernel, rfl, by decide +kernel, by decide +kernel⟩
def m_law_told (x_found : (List Int)) (x_due : (Option (List Int))) : M (Bool × (List Int)) :=
if (some x_found) ≠ x_due then (
.ok (false, x_found))
else (
compS (fun (y2 : Int) (st19 : Unit) =>
m_law_whole y2 >>= fun r25 =>
.ok (some r25, ())) x_found () >>= fun q42 =>
if (List.all q42.1 id) = true then (
appL x_found (0 : Int) >>= fun _ =>
.ok (true, (x_found ++ [(0 : Int)])))
else (
.ok (false, x_found)))
def sp_law_told (mg : Str → Option Value) : Sp := fun vs H Q E => ∃ (F : Hp) (a_found : Addr) (w_found : (List V)) (x_found : (List Int)) (v_due : V) (x_due : (Option (List Int))), vs = [.ref a_found, v_due] ∧ Pre F [(a_found, .lst w_found)] H ∧ RL (a := Int) F w_found x_found ∧ R (a := (Option (List Int))) F v_due x_due ∧
  wp (m_law_told x_found x_due) (fun r => ∀ (F' H' : Hp) (w0 : (List V)), Gr [a_found] F H F' H' → H' a_found = some (.lst w0) → RL (a := Int) F' w0 r.2 → Q (V.bl r.1) H')
  (fun n => ∀ (C : Addr) (H' : Hp), mg (Str.ofString n) = some (.ref C) → Kp [a_found] H H' → E (.ref C) none H')
set_option maxHeartbeats 20000000 in
theorem ok_law_told (nb : Nb mg) (C_law_whole : Ca P w K mg base "_law_whole" 1 ["found"] (sp_law_whole mg)) (D : Df K mg "_law_told" "_law_told" s_law_told ["found", "due"]) : Ca P w K mg base "_law_told" 2 ["found", "due"] (sp_law_told mg) := by
  obtain ⟨fa_law_whole, fd_law_whole, G_law_whole, M_law_whole, K_law_whole, B_law_whole⟩ := C_law_whole.ex
  refine Ca.mk' D sc_law_told (fun vs H Q E h => ?_) (fun q_ f_ cdv A outer s H vs Q E hr h => ?_)
  · obtain ⟨F, _, _, _, _, _, rfl, _⟩ := h
    rfl
  · obtain ⟨F, a_found, w_found, x_found, v_due, x_due, rfl, P0, f_found, f_due, hk⟩ := h
    have nd := sc_law_told.nd
    have hu64 := hr.units
    have hu128 := hu128_of hr
    have O := P0.start
    refine ⟨_, (pss_cons (ps_if (PW.pt (pw_or (pt_not (pt_val (pe_callB (isiK (K := K) rfl) (by rfl) nb.b_isinstance (by decide +kernel) (pa_cons (pv 0) (pa_cons (pe_bltn (v := .ty "list") (by rfl) nb.b_list (by decide +kernel) rfl) pa_nil))))) (pw_or (pt_cmpR (op_neT (Option (List Int)) hu64) (pv 0) (pv 1) (nomark _)) (pw_or1 (pt_not (pt_val (pe_callB (cr_allK (K := K) rfl rfl) (by rfl) nb.b_all (by decide +kernel) (pa_cons (pe_lc (own := [("place", 2)]) (g := gName 2) (tt := _) rfl nd (piListK (K := K) rfl (pv 0)) (blkOk_by (own := [("place", 2)]) (N := ["found", "due", "place"]) (sc := defScope s_law_told) (by decide +kernel)) (fun _ _ _ _ _ => (pg_name (i := 2) nd rfl (Or.inl rfl))) (fun _ _ _ _ _ => pts_nil) (fun _ _ _ _ _ => (pe_call G_law_whole (hr.mono (by decide)) rfl M_law_whole K_law_whole B_law_whole .nil passL (pa_cons (pv 2) pa_nil)))) pa_nil)))))))) (pss_one (ps_ret pe_bl)) pss_nil)
  (pss_cons (ps_expr (bmK (K := K) rfl (pe_bm PySem.F.plainAttrs_list PySem.F.slot_list_append PySem.F.type_list_append mt_append (pv 0) (pa_cons pe_int pa_nil))))
  (pss_one (ps_ret pe_bl)))), ?_⟩
    refine ⟨_, rfl, _, _, _, _, true, rfl, .ty _, (.base (.lst (O.at 0 rfl))), kit_ty (by decide +kernel), _, rfl, ?_⟩
    refine iteNT ?_
    refine ⟨_, rfl, _, rfl, _, _, (R.jst (R.lst (a := Int) (O.at 0 rfl) (f_found.mono O.s))), (R.mono f_due O.s), _, rfl, ?_⟩
    refine iteD (fun q1 => ?_) (fun q1 => ?_)
    · have hk := wp_if hk q1
      refine iteT ?_
      exact hk _ _ w_found O.g (O.at 0 rfl) f_found
    · have hk := wp_el hk q1
      obtain ⟨c7, L3, hL4, hLs5, hLd6⟩ := compS_L hk
      refine ⟨_, rfl, _, rfl, ⟨_, (SqL.of (O.at 0 rfl))⟩, fun p8 hp9 => ?_⟩
      have z31 := O.was hp9
      refine lc_list (K := K) (xs := w_found) (fun i H => ∃ (F_ : Hp) (st : Unit) (acc : List Bool) (wa : List V), Same F F_ ∧ Ow _ F_ [(p8, .lst wa), (a_found, .lst w_found)] H ∧ RL F_ wa acc ∧ wa.length ≤ i ∧ L3 (List.drop i x_found) acc st) ⟨F, (), [], [], Same.refl _, O.new hp9, RL.nil, Nat.zero_le _, hL4⟩ (fun i_ H_ _ hp_ => ?_) ?_ ?_
      · obtain ⟨_, _, _, _, hS_, hO_, _⟩ := hp_
        exact SqL.of (hO_.at 1 rfl)
      · rintro i10 x11 H12 hi13 ⟨F18, st19, acc15, wa16, S20, O22, hl21, la17, hL4⟩
        have f_found := f_found.mono S20
        have f_due := f_due.mono S20
        obtain ⟨y2, e23, r24⟩ := RL.got f_found hi13
        rw [drop_at e23] at hL4
        have hk := hLs5 _ _ _ _ hL4
        obtain rfl := R.int_ r24
        refine ⟨rfl, ?_⟩
        refine ⟨_, rfl, _, _, rfl, O22.pre0, wp_call hk (fun r25 er26 hk F27 H28 g29 => ?_) (fun n hn => hn.elim)⟩
        have O30 := O22.call0 g29
        have S_ := g29.f
        have f_found := f_found.mono S_
        have f_due := f_due.mono S_
        have S20 := S20.trans S_
        have hl21 := hl21.mono S_
        refine ⟨_, (O30.at 0 rfl), (comp_len la17 hi13 f_found.len c7), ?_⟩
        exact ⟨F27, (), acc15 ++ [r25], wa16 ++ [V.bl r25], S20, O30.set 0 (.lst (wa16 ++ [V.bl r25])) rfl, RL.snoc hl21 R.bl, by rw [List.length_append]; exact Nat.succ_le_succ la17, hk⟩
      rintro H32 ⟨F33, st34, acc35, wa36, S37, O38, hl39, la40, hL41⟩
      rw [drop_end f_found.len] at hL41
      have hk := hLd6 _ _ hL41
      have f_found := f_found.mono S37
      have f_due := f_due.mono S37
      obtain ⟨F43, O44, S45, h46⟩ := O38.frzE 0 rfl z31
      have f_found := f_found.mono S45
      have f_due := f_due.mono S45
      have hl39 := hl39.mono S45
      have h47 := R.lst (a := Bool) h46 hl39
      obtain ⟨p48, w49, e50, h51, hl52⟩ := R.lst_ h47
      cases e50
      refine ⟨_, acc35, rfl, (by rw [← RL.bools hl52]; exact (SqLF O44.s h51)), _, rfl, ?_⟩
      refine iteBN (fun q53 => ?_) (fun q53 => ?_)
      · have hk := wp_if hk q53
        obtain ⟨c54, hk⟩ := wp_appL hk
        refine ⟨_, rfl, (.inl ⟨rfl, _, SqL.of (O44.at 0 rfl)⟩), _, _, _, rfl, rfl, (O44.at 0 rfl), (by rw [f_found.len]; exact c54), ?_⟩
        have O56 := O44.set 0 (.lst (w_found ++ [V.int (0 : Int)])) rfl
        have hl57 : RL (a := Int) F43 (w_found ++ [V.int (0 : Int)]) (x_found ++ [(0 : Int)]) := RL.snoc f_found R.int
        exact hk _ _ (w_found ++ [V.int (0 : Int)]) O56.g (O56.at 0 rfl) hl57
      · have hk := wp_el hk q53
        exact hk _ _ w_found O44.g (O44.at 0 rfl) f_found
abbrev s_law : Stmt := top 37
theorem sc_law : FnScope ["script", "tree", "handed", "lists", "due", "turn", "pieces", "seat", "far", "row"] ["script"] (defScope s_law) := ⟨rfl, rfl, rfl, by decide +kernel, rfl, by decide +kernel, by decide +kernel⟩
def m_law (x_script : (List Int)) : M (Bool) :=
m_law_tree x_script (9 : Int) (-(4 : Int)) >>= fun r1 =>
m_law_copied r1 >>= fun r9 =>
m_law_some (r1.1.length : Int) >>= fun r29 =>
compS (fun (y42 : (List Int)) (st59 : Unit) =>
m_law_tied r1 y42 >>= fun r65 =>
if r65 = (0 : Int) then (
.ok (some y42, ()))
else (
.ok (none, ()))) r29 () >>= fun q83 =>
m_law_best r1 q83.1 >>= fun r89 =>
chk (okR (2 : Int)) >>= fun _ =>
loopM (fun (y97 : Int) (st109 : Unit) =>
m_best_set r9 >>= fun r114 =>
m_law_told r114 r89 >>= fun r128 =>
if r128.1 = true then (
.ok (.nx ()))
else (
.ok (.rt false))) (rangeL 0 (2 : Int)) () >>= fun f147 => match f147 with
| .rt z_ => .ok z_
| .nx st142 =>
compS (fun (y153 : (List Int)) (st170 : Unit) =>
if y153 ≠ ([] : List Int) then (
m_law_tied r1 y153 >>= fun r185 =>
if r185 = ((y153.length : Int) - (1 : Int)) then (
.ok (some y153, ()))
else (
.ok (none, ())))
else (
.ok (none, ()))) r29 () >>= fun q208 =>
chk (okR (r1.1.length : Int)) >>= fun _ =>
loopM (fun (y219 : Int) (st231 : Unit) =>
m_best_piece r9 y219 >>= fun r236 =>
compS (fun (y255 : (List Int)) (st272 : Unit) =>
if y219 ∈ y255 then (
.ok (some y255, ()))
else (
.ok (none, ()))) q208.1 () >>= fun q295 =>
m_law_best r1 q295.1 >>= fun r301 =>
m_law_told r236 r301 >>= fun r309 =>
if r309.1 = true then (
.ok (.nx ()))
else (
.ok (.rt false))) (rangeL 0 (r1.1.length : Int)) () >>= fun f328 => match f328 with
| .rt z_ => .ok z_
| .nx st323 =>
m_law_cell_at x_script (5 : Int) >>= fun r329 =>
chk (0 < ((10 : Int) ^ Int.toNat (20 : Int))) >>= fun _ =>
loopM (fun (y359 : Int) (st370 : Unit) =>
m_law_refused r9 y359 >>= fun r376 =>
if r376 = true then (
.ok (.nx ()))
else (
.ok (.rt false))) ([(-(1 : Int)), (r1.1.length : Int), ((-(1 : Int)) - (r329 % ((10 : Int) ^ Int.toNat (20 : Int)))), ((r1.1.length : Int) + (r329 % ((10 : Int) ^ Int.toNat (20 : Int))))]) () >>= fun f391 => match f391 with
| .rt z_ => .ok z_
| .nx st386 =>
.ok (decide (r9 = r1))
def sp_law (K : PySem.W.Frag) : Sp := fun vs H Q E => ∃ (F : Hp) (a_script : Addr) (x_script : (List Int)), vs = [.ref a_script] ∧ Pre F [] H ∧ SqL K F a_script (x_script.map V.int) ∧
  wp (m_law x_script) (fun r => ∀ (F' H' : Hp), Gr [] F H F' H' → Q (V.bl r) H') (fun _ => False)
set_option maxHeartbeats 20000000 in
theorem ok_law (nb : Nb mg) (C_law_best : Ca P w K mg base "_law_best" 2 ["tree", "lists"] (sp_law_best mg)) (C_law_cell_at : Ca P w K mg base "_law_cell_at" 1 ["script", "k"] (sp_law_cell_at K mg)) (C_law_copied : Ca P w K mg base "_law_copied" 1 ["tree"] (sp_law_copied mg)) (C_law_refused : Ca P w K mg base "_law_refused" 5 ["tree", "seat"] (sp_law_refused mg)) (C_law_some : Ca P w K mg base "_law_some" 1 ["many"] (sp_law_some mg)) (C_law_tied : Ca P w K mg base "_law_tied" 1 ["tree", "row"] (sp_law_tied mg)) (C_law_told : Ca P w K mg base "_law_told" 2 ["found", "due"] (sp_law_told mg)) (C_law_tree : Ca P w K mg base "_law_tree" 3 ["script", "most", "least"] (sp_law_tree K mg)) (C_best_piece : Ca P w K mg base "best_piece" 4 ["tree", "place"] (sp_best_piece mg)) (C_best_set : Ca P w K mg base "best_set" 4 ["tree"] (sp_best_set mg)) {f : Addr} {fd : FuncData} (F_ : Fun K "law" "law" s_law f fd) : FnOk P w K mg base (L2.CX P w) 6 f fd ["script"] (sp_law K) := by
  obtain ⟨fa_law_best, fd_law_best, G_law_best, M_law_best, K_law_best, B_law_best⟩ := C_law_best.ex
  obtain ⟨fa_law_cell_at, fd_law_cell_at, G_law_cell_at, M_law_cell_at, K_law_cell_at, B_law_cell_at⟩ := C_law_cell_at.ex
  obtain ⟨fa_law_copied, fd_law_copied, G_law_copied, M_law_copied, K_law_copied, B_law_copied⟩ := C_law_copied.ex
  obtain ⟨fa_law_refused, fd_law_refused, G_law_refused, M_law_refused, K_law_refused, B_law_refused⟩ := C_law_refused.ex
  obtain ⟨fa_law_some, fd_law_some, G_law_some, M_law_some, K_law_some, B_law_some⟩ := C_law_some.ex
  obtain ⟨fa_law_tied, fd_law_tied, G_law_tied, M_law_tied, K_law_tied, B_law_tied⟩ := C_law_tied.ex
  obtain ⟨fa_law_told, fd_law_told, G_law_told, M_law_told, K_law_told, B_law_told⟩ := C_law_told.ex
  obtain ⟨fa_law_tree, fd_law_tree, G_law_tree, M_law_tree, K_law_tree, B_law_tree⟩ := C_law_tree.ex
  obtain ⟨fa_best_piece, fd_best_piece, G_best_piece, M_best_piece, K_best_piece, B_best_piece⟩ := C_best_piece.ex
  obtain ⟨fa_best_set, fd_best_set, G_best_set, M_best_set, K_best_set, B_best_set⟩ := C_best_set.ex
  refine F_.okX sc_law (fun vs H Q E h => ?_) (fun cdv A outer s H vs Q E hr h => ?_)
  · obtain ⟨F, _, _, rfl, _⟩ := h
    rfl
  · obtain ⟨F, a_script, x_script, rfl, P0, f_script, hk⟩ := h
    have nd := sc_law.nd
    have hu64 := hr.units
    have hu128 := hu128_of hr
    have O := P0.start
    refine ⟨_, (pss_cons (ps_toN (ps_set (i := 1) nd rfl (Or.inr rfl) (pe_call G_law_tree (hr.mono (by decide)) rfl M_law_tree K_law_tree B_law_tree .nil (passes_call (takes_of rfl rfl rfl rfl) fun _ _ _ _ h => h) (pa_cons (pv 0) (pa_cons pe_int (pa_cons (pe_un un_neg pe_int) pa_nil))))))
  (pss_cons (ps_toN (ps_set (i := 2) nd rfl (Or.inl rfl) (pe_call G_law_copied (hr.mono (by decide)) rfl M_law_copied K_law_copied B_law_copied .nil (passes_call (takes_of rfl rfl rfl rfl) fun _ _ _ _ h => h) (pa_cons (pv 1) pa_nil))))
  (pss_cons (ps_toN (ps_set (i := 3) nd rfl (Or.inl rfl) (pe_call G_law_some (hr.mono (by decide)) rfl M_law_some K_law_some B_law_some .nil (passes_call (takes_of rfl rfl rfl rfl) fun _ _ _ _ h => h) (pa_cons (pe_callB call_lenT (by rfl) nb.b_len PySem.boot_len (pa_cons (pe_ix (ixTupK (K := K) rfl) (pv 1) pe_int (fun _ _ => rfl)) pa_nil)) pa_nil))))
  (pss_cons (ps_toN (ps_set (i := 4) nd rfl (Or.inl rfl) (pe_call G_law_best (hr.mono (by decide)) rfl M_law_best K_law_best B_law_best .nil (passes_call (takes_of rfl rfl rfl rfl) fun _ _ _ _ h => h) (pa_cons (pv 1) (pa_cons (pe_lc (own := [("row", 9)]) (g := gName 9) (tt := _) rfl nd (piListK (K := K) rfl (pv 3)) (blkOk_by (own := [("row", 9)]) (N := ["script", "tree", "handed", "lists", "due", "turn", "pieces", "seat", "far", "row"]) (sc := defScope s_law) (by decide +kernel)) (fun _ _ _ _ _ => (pg_name (i := 9) nd rfl (Or.inl rfl))) (fun _ _ _ _ _ => (pts_one (pt_cmpR (op_eqT Int hu64) (pe_call G_law_tied (hr.mono (by decide)) rfl M_law_tied K_law_tied B_law_tied .nil passL (pa_cons (pv 1) (pa_cons (pv 9) pa_nil))) pe_int (nomark _)))) (fun _ _ _ _ _ => (pv 9))) pa_nil)))))
  (pss_cons (ps_for (passes_of rfl) rfl (pi_range1 rfl nb.b_range (pa_cons pe_int pa_nil)) (pg_name (i := 5) nd rfl (Or.inl rfl)) (pss_one (ps_if (pt_not (pt_val (pe_call G_law_told (hr.mono (by decide)) rfl M_law_told K_law_told B_law_told .nil (passes_call (takes_of rfl rfl rfl rfl) fun _ _ _ _ h => h) (pa_cons (pe_call G_best_set (hr.mono (by decide)) rfl M_best_set K_best_set B_best_set .nil (passes_call (takes_of rfl rfl rfl rfl) fun _ _ _ _ h => h) (pa_cons (pv 2) pa_nil)) (pa_cons (pv 4) pa_nil))))) (pss_one (ps_ret pe_bl)) pss_nil)))
  (pss_cons (ps_toN (ps_setLc (i := 6) (own := [("row", 9)]) (g := gName 9) (tt := _) rfl nd rfl rfl (sw_true rfl rfl rfl (by decide +kernel)) (piListK (K := K) rfl (pv 3)) (blkOk_by (own := [("row", 9)]) (N := ["script", "tree", "handed", "lists", "due", "turn", "pieces", "seat", "far", "row"]) (sc := defScope s_law) (by decide +kernel)) (fun _ _ _ _ _ => (pg_name (i := 9) nd rfl (Or.inl rfl))) (fun _ _ _ _ _ => (pts_one (PW.pt (pw_and (pt_cmpR (op_neT (List Int) hu64) (pv 9) (pe_lst pa_nil) (nomark _)) (pw_and1 (pt_cmpR (op_eqT Int hu64) (pe_call G_law_tied (hr.mono (by decide)) rfl M_law_tied K_law_tied B_law_tied .nil passL (pa_cons (pv 1) (pa_cons (pv 9) pa_nil))) (pe_op op_sub (pe_callB call_lenT (by rfl) nb.b_len PySem.boot_len (pa_cons (pv 9) pa_nil)) pe_int) (nomark _))))))) (fun _ _ _ _ _ => (pv 9))))
  (pss_cons (ps_for (passes_of rfl) rfl (pi_range1 rfl nb.b_range (pa_cons (pe_callB call_lenT (by rfl) nb.b_len PySem.boot_len (pa_cons (pe_ix (ixTupK (K := K) rfl) (pv 1) pe_int (fun _ _ => rfl)) pa_nil)) pa_nil)) (pg_name (i := 7) nd rfl (Or.inr rfl)) (pss_one (ps_if (pt_not (pt_val (pe_call G_law_told (hr.mono (by decide)) rfl M_law_told K_law_told B_law_told .nil (passes_call (takes_of rfl rfl rfl rfl) fun _ _ _ _ h => h) (pa_cons (pe_call G_best_piece (hr.mono (by decide)) rfl M_best_piece K_best_piece B_best_piece .nil (passes_call (takes_of rfl rfl rfl rfl) fun _ _ _ _ h => h) (pa_cons (pv 2) (pa_cons (pv 7) pa_nil))) (pa_cons (pe_call G_law_best (hr.mono (by decide)) rfl M_law_best K_law_best B_law_best .nil (passes_call (takes_of rfl rfl rfl rfl) fun _ _ _ _ h => h) (pa_cons (pv 1) (pa_cons (pe_lc (own := [("row", 9)]) (g := gName 9) (tt := _) rfl nd (piListK (K := K) rfl (pv 6)) (blkOk_by (own := [("row", 9)]) (N := ["script", "tree", "handed", "lists", "due", "turn", "pieces", "seat", "far", "row"]) (sc := defScope s_law) (by decide +kernel)) (fun _ _ _ _ _ => (pg_name (i := 9) nd rfl (Or.inl rfl))) (fun _ _ _ _ _ => (pts_one (pt_cmpR (op_inT Int hu64) (pv 7) (pv 9) rfl))) (fun _ _ _ _ _ => (pv 9))) pa_nil))) pa_nil))))) (pss_one (ps_ret pe_bl)) pss_nil)))
  (pss_cons (ps_toN (ps_set (i := 8) nd rfl (Or.inl rfl) (pe_op op_mod (pe_call G_law_cell_at (hr.mono (by decide)) rfl M_law_cell_at K_law_cell_at B_law_cell_at .nil (passes_call (takes_of rfl rfl rfl rfl) fun _ _ _ _ h => h) (pa_cons (pv 0) (pa_cons pe_int pa_nil))) (pe_op op_pow pe_int pe_int))))
  (pss_cons (ps_for (passes_of rfl) rfl (piListK (K := K) rfl (pe_lst (pa_cons (pe_un un_neg pe_int) (pa_cons (pe_callB call_lenT (by rfl) nb.b_len PySem.boot_len (pa_cons (pe_ix (ixTupK (K := K) rfl) (pv 1) pe_int (fun _ _ => rfl)) pa_nil)) (pa_cons (pe_op op_sub (pe_un un_neg pe_int) (pv 8)) (pa_cons (pe_op op_add (pe_callB call_lenT (by rfl) nb.b_len PySem.boot_len (pa_cons (pe_ix (ixTupK (K := K) rfl) (pv 1) pe_int (fun _ _ => rfl)) pa_nil)) (pv 8)) pa_nil)))))) (pg_name (i := 7) nd rfl (Or.inr rfl)) (pss_one (ps_if (pt_not (pt_val (pe_call G_law_refused (hr.mono (by decide)) rfl M_law_refused K_law_refused B_law_refused .nil (passes_call (takes_of rfl rfl rfl rfl) fun _ _ _ _ h => h) (pa_cons (pv 2) (pa_cons (pv 7) pa_nil))))) (pss_one (ps_ret pe_bl)) pss_nil)))
  (pss_one (ps_ret (pe_cmpR (op_eqT ((List Int) × (List (T3 Int Int Int))) hu64) (pv 2) (pv 1) (nomark _))))))))))))), ?_⟩
    refine ⟨_, rfl, _, rfl, _, _, _, _, _, rfl, O.pre0, f_script, wp_call hk (fun r1 er2 hk F3 H4 g5 v6 r7 => ?_) (fun n hn C H1 hC kp => hn.elim)⟩
    have O8 := O.call0 g5
    have S_ := g5.f
    have f_script := S_.seq f_script
    refine ⟨[some (V.ref a_script), some v6, none, none, none, none, none, none, none, none], rfl, _, rfl, _, _, _, rfl, O8.pre0, r7, wp_call hk (fun r9 er10 hk F11 H12 g13 v14 r15 => ?_) (fun n hn C H1 hC kp => hn.elim)⟩
    have O16 := O8.call0 g13
    have S_ := g13.f
    have f_script := S_.seq f_script
    have r7 := r7.mono S_
    obtain ⟨p17, v20, v21, e18, h19, r22, r23⟩ := R.t2_ r7
    cases e18
    obtain ⟨p24, w25, e26, h27, hl28⟩ := R.lst_ r22
    cases e26
    refine ⟨[some (V.ref a_script), some (V.ref p17), some v14, none, none, none, none, none, none, none], rfl, _, rfl, _, _, _, _, rfl, rfl, (SqTF O16.s h19), rfl, _, _, _, rfl, (.inl (O16.s _ _ h27)), hl28.len, _, _, rfl, O16.pre0, wp_call hk (fun r29 er30 hk F31 H32 g33 v34 r35 => ?_) (fun n hn C H1 hC kp => hn.elim)⟩
    have O36 := O16.call0 g33
    have S_ := g33.f
    have f_script := S_.seq f_script
    have r7 := r7.mono S_
    have r15 := r15.mono S_
    have h19 := S_ _ _ h19
    have r22 := r22.mono S_
    have r23 := r23.mono S_
    have h27 := S_ _ _ h27
    have hl28 := hl28.mono S_
    obtain ⟨p37, w38, e39, h40, hl41⟩ := R.lst_ r35
    cases e39
    obtain ⟨c47, L43, hL44, hLs45, hLd46⟩ := compS_L hk
    refine ⟨[some (V.ref a_script), some (V.ref p17), some v14, some (V.ref p37), none, none, none, none, none, none], rfl, _, rfl, _, rfl, _, rfl, ⟨_, (SqLF O36.s h40)⟩, fun p48 hp49 => ?_⟩
    have z72 := O36.was hp49
    refine lc_list (K := K) (xs := w38) (fun i H => ∃ (F_ : Hp) (st : Unit) (acc : List (List Int)) (wa : List V), Same F31 F_ ∧ Ow _ F_ [(p48, .lst wa)] H ∧ RL F_ wa acc ∧ wa.length ≤ i ∧ L43 (List.drop i r29) acc st) ⟨F31, (), [], [], Same.refl _, O36.new hp49, RL.nil, Nat.zero_le _, hL44⟩ (fun i_ H_ _ hp_ => ?_) ?_ ?_
    · obtain ⟨_, _, _, _, hS_, hO_, _⟩ := hp_
      exact SqLF hO_.s (hS_ _ _ h40)
    · rintro i50 x51 H52 hi53 ⟨F58, st59, acc55, wa56, S60, O62, hl61, la57, hL44⟩
      have f_script := S60.seq f_script
      have r7 := r7.mono S60
      have r15 := r15.mono S60
      have h19 := S60 _ _ h19
      have r22 := r22.mono S60
      have r23 := r23.mono S60
      have h27 := S60 _ _ h27
      have hl28 := hl28.mono S60
      have r35 := r35.mono S60
      have h40 := S60 _ _ h40
      have hl41 := hl41.mono S60
      obtain ⟨y42, e63, r64⟩ := RL.got hl41 hi53
      rw [drop_at e63] at hL44
      have hk := hLs45 _ _ _ _ hL44
      refine ⟨rfl, _, rfl, _, rfl, _, _, _, _, _, rfl, O62.pre0, r7, r64, wp_call hk (fun r65 er66 hk F67 H68 g69 => ?_) (fun n hn => hn.elim)⟩
      have O70 := O62.call0 g69
      have S_ := g69.f
      have f_script := S_.seq f_script
      have r7 := r7.mono S_
      have r15 := r15.mono S_
      have h19 := S_ _ _ h19
      have r22 := r22.mono S_
      have r23 := r23.mono S_
      have h27 := S_ _ _ h27
      have hl28 := hl28.mono S_
      have r35 := r35.mono S_
      have h40 := S_ _ _ h40
      have hl41 := hl41.mono S_
      have S60 := S60.trans S_
      have hl61 := hl61.mono S_
      have r64 := r64.mono S_
      refine ⟨_, _, R.int, R.int, _, rfl, ?_⟩
      refine iteD (fun q71 => ?_) (fun q71 => ?_)
      · have hk := wp_if hk q71
        refine ⟨_, rfl, _, (O70.at 0 rfl), (comp_len la57 hi53 hl41.len c47), ?_⟩
        exact ⟨F67, (), acc55 ++ [y42], wa56 ++ [x51], S60, O70.set 0 (.lst (wa56 ++ [x51])) rfl, RL.snoc hl61 r64, by rw [List.length_append]; exact Nat.succ_le_succ la57, hk⟩
      · have hk := wp_el hk q71
        exact ⟨F67, (), acc55, wa56, S60, O70, hl61, Nat.le_succ_of_le la57, hk⟩
    rintro H73 ⟨F74, st75, acc76, wa77, S78, O79, hl80, la81, hL82⟩
    rw [drop_end hl41.len] at hL82
    have hk := hLd46 _ _ hL82
    have f_script := S78.seq f_script
    have r7 := r7.mono S78
    have r15 := r15.mono S78
    have h19 := S78 _ _ h19
    have r22 := r22.mono S78
    have r23 := r23.mono S78
    have h27 := S78 _ _ h27
    have hl28 := hl28.mono S78
    have r35 := r35.mono S78
    have h40 := S78 _ _ h40
    have hl41 := hl41.mono S78
    obtain ⟨F84, O85, S86, h87⟩ := O79.frzE 0 rfl z72
    have f_script := S86.seq f_script
    have r7 := r7.mono S86
    have r15 := r15.mono S86
    have h19 := S86 _ _ h19
    have r22 := r22.mono S86
    have r23 := r23.mono S86
    have h27 := S86 _ _ h27
    have hl28 := hl28.mono S86
    have r35 := r35.mono S86
    have h40 := S86 _ _ h40
    have hl41 := hl41.mono S86
    have hl80 := hl80.mono S86
    have h88 := R.lst (a := (List Int)) h87 hl80
    refine ⟨_, _, _, _, _, rfl, O85.pre0, r7, h88, wp_call hk (fun r89 er90 hk F91 H92 g93 v94 r95 => ?_) (fun n hn C H1 hC kp => hn.elim)⟩
    have O96 := O85.call0 g93
    have S_ := g93.f
    have f_script := S_.seq f_script
    have r7 := r7.mono S_
    have r15 := r15.mono S_
    have h19 := S_ _ _ h19
    have r22 := r22.mono S_
    have r23 := r23.mono S_
    have h27 := S_ _ _ h27
    have hl28 := hl28.mono S_
    have r35 := r35.mono S_
    have h40 := S_ _ _ h40
    have hl41 := hl41.mono S_
    have h88 := h88.mono S_
    obtain ⟨c98, hk⟩ := wp_chk hk
    obtain ⟨L99, hL100, hLs101, hLd102⟩ := loopM_L hk
    refine ⟨[some (V.ref a_script), some (V.ref p17), some v14, some (V.ref p37), some v94, none, none, none, none, none], rfl, _, rfl, c98.lo, c98.hi, ?_⟩
    refine for_range (lo := 0) (n := ((2 : Int)).toNat) (fun i σ H_ => ∃ (F_ : Hp) (st : Unit) (t_0 : Option V), σ = [some (V.ref a_script), some (V.ref p17), some v14, some (V.ref p37), some v94, t_0, none, none, none, none] ∧ Same F91 F_ ∧ Ow _ F_ [] H_ ∧ L99 (List.drop i (rangeL 0 (2 : Int))) st) ⟨F91, (), none, rfl, Same.refl _, O96, hL100⟩ ?_ ?_
    · rintro i103 sg105 H106 hi107 ⟨F111, st109, t110, rfl, S108, O112, hL100⟩
      have f_script := S108.seq f_script
      have r7 := r7.mono S108
      have r15 := r15.mono S108
      have h19 := S108 _ _ h19
      have r22 := r22.mono S108
      have r23 := r23.mono S108
      have h27 := S108 _ _ h27
      have hl28 := hl28.mono S108
      have r35 := r35.mono S108
      have h40 := S108 _ _ h40
      have hl41 := hl41.mono S108
      have h88 := h88.mono S108
      have r95 := r95.mono S108
      rw [rangeL_get0 hi107] at hL100
      have hk := hLs101 _ _ _ hL100
      obtain ⟨y97, he_⟩ : ∃ z_, z_ = 0 + (i103 : Int) := ⟨_, rfl⟩
      try rw [← he_] at hk
      rw [← he_]
      refine ⟨_, rfl, _, _, _, rfl, O112.pre0, r15, wp_call hk (fun r114 er115 hk F116 H117 g118 p119 w120 hn121 hf122 h123 hl124 => ?_) (fun n hn C H1 hC kp => hn.elim)⟩
      have O125 := O112.call0 g118
      have S_ := g118.f
      have f_script := S_.seq f_script
      have r7 := r7.mono S_
      have r15 := r15.mono S_
      have h19 := S_ _ _ h19
      have r22 := r22.mono S_
      have r23 := r23.mono S_
      have h27 := S_ _ _ h27
      have hl28 := hl28.mono S_
      have r35 := r35.mono S_
      have h40 := S_ _ _ h40
      have hl41 := hl41.mono S_
      have h88 := h88.mono S_
      have r95 := r95.mono S_
      have S108 := S108.trans S_
      have O126 := O112.got O125 rfl hn121 hf122 h123
      have z127 := O112.was hn121
      refine ⟨_, rfl, _, _, _, _, _, _, rfl, (O126.pre1 0 rfl), hl124, r95, wp_call hk (fun r128 er129 hk F130 H131 w133 g132 h134 hl135 => ?_) (fun n hn C H1 hC kp => hn.elim)⟩
      have O136 := O126.call1 g132 0 rfl h134
      have S_ := g132.f
      have f_script := S_.seq f_script
      have r7 := r7.mono S_
      have r15 := r15.mono S_
      have h19 := S_ _ _ h19
      have r22 := r22.mono S_
      have r23 := r23.mono S_
      have h27 := S_ _ _ h27
      have hl28 := hl28.mono S_
      have r35 := r35.mono S_
      have h40 := S_ _ _ h40
      have hl41 := hl41.mono S_
      have h88 := h88.mono S_
      have r95 := r95.mono S_
      have S108 := S108.trans S_
      refine ⟨_, rfl, ?_⟩
      refine iteBN (fun q137 => ?_) (fun q137 => ?_)
      · have hk := wp_if hk q137
        have O138 := O136.drop 0
        exact ⟨F130, (), some (V.int y97), rfl, S108, O138, hk⟩
      · have hk := wp_el hk q137
        exact hk _ _  O136.g 
    rintro sg139 H140 ⟨F145, st142, t144, rfl, S141, O146, hL143⟩
    rw [rangeL_end0] at hL143
    have hk := hLd102 _ hL143
    have f_script := S141.seq f_script
    have r7 := r7.mono S141
    have r15 := r15.mono S141
    have h19 := S141 _ _ h19
    have r22 := r22.mono S141
    have r23 := r23.mono S141
    have h27 := S141 _ _ h27
    have hl28 := hl28.mono S141
    have r35 := r35.mono S141
    have h40 := S141 _ _ h40
    have hl41 := hl41.mono S141
    have h88 := h88.mono S141
    have r95 := r95.mono S141
    obtain ⟨p148, w149, e150, h151, hl152⟩ := R.lst_ r35
    cases e150
    obtain ⟨c158, L154, hL155, hLs156, hLd157⟩ := compS_L hk
    refine ⟨_, rfl, _, rfl, ⟨_, (SqLF O146.s h151)⟩, fun p159 hp160 => ?_⟩
    have z197 := O146.was hp160
    refine lc_list (K := K) (xs := w149) (fun i H => ∃ (F_ : Hp) (st : Unit) (acc : List (List Int)) (wa : List V), Same F145 F_ ∧ Ow _ F_ [(p159, .lst wa)] H ∧ RL F_ wa acc ∧ wa.length ≤ i ∧ L154 (List.drop i r29) acc st) ⟨F145, (), [], [], Same.refl _, O146.new hp160, RL.nil, Nat.zero_le _, hL155⟩ (fun i_ H_ _ hp_ => ?_) ?_ ?_
    · obtain ⟨_, _, _, _, hS_, hO_, _⟩ := hp_
      exact SqLF hO_.s (hS_ _ _ h151)
    · rintro i161 x162 H163 hi164 ⟨F169, st170, acc166, wa167, S171, O173, hl172, la168, hL155⟩
      have f_script := S171.seq f_script
      have r7 := r7.mono S171
      have r15 := r15.mono S171
      have h19 := S171 _ _ h19
      have r22 := r22.mono S171
      have r23 := r23.mono S171
      have h27 := S171 _ _ h27
      have hl28 := hl28.mono S171
      have r35 := r35.mono S171
      have h40 := S171 _ _ h40
      have hl41 := hl41.mono S171
      have h88 := h88.mono S171
      have r95 := r95.mono S171
      have h151 := S171 _ _ h151
      have hl152 := hl152.mono S171
      obtain ⟨y153, e174, r175⟩ := RL.got hl152 hi164
      rw [drop_at e174] at hL155
      have hk := hLs156 _ _ _ _ hL155
      refine ⟨rfl, _, rfl, (by show 0 ≤ sizeLine; decide), fun p176 hp177 => ?_⟩
      have hl183 : RL (a := Int) F169 ([]) ([] : List Int) := RL.nil
      obtain ⟨F178, O179, S180, h181⟩ := O173.putE hp177 (.lst ([]))
      have f_script := S180.seq f_script
      have r7 := r7.mono S180
      have r15 := r15.mono S180
      have h19 := S180 _ _ h19
      have r22 := r22.mono S180
      have r23 := r23.mono S180
      have h27 := S180 _ _ h27
      have hl28 := hl28.mono S180
      have r35 := r35.mono S180
      have h40 := S180 _ _ h40
      have hl41 := hl41.mono S180
      have h88 := h88.mono S180
      have r95 := r95.mono S180
      have h151 := S180 _ _ h151
      have hl152 := hl152.mono S180
      have S171 := S171.trans S180
      have hl172 := hl172.mono S180
      have r175 := r175.mono S180
      have hl183 := hl183.mono S180
      have h182 := R.lst (a := Int) h181 hl183
      refine ⟨_, _, (R.mono r175 O179.s), (R.mono h182 O179.s), _, rfl, ?_⟩
      refine iteD (fun q184 => ?_) (fun q184 => ?_)
      · have hk := wp_if hk q184
        refine ⟨_, rfl, _, rfl, _, _, _, _, _, rfl, O179.pre0, r7, r175, wp_call hk (fun r185 er186 hk F187 H188 g189 => ?_) (fun n hn => hn.elim)⟩
        have O190 := O179.call0 g189
        have S_ := g189.f
        have f_script := S_.seq f_script
        have r7 := r7.mono S_
        have r15 := r15.mono S_
        have h19 := S_ _ _ h19
        have r22 := r22.mono S_
        have r23 := r23.mono S_
        have h27 := S_ _ _ h27
        have hl28 := hl28.mono S_
        have r35 := r35.mono S_
        have h40 := S_ _ _ h40
        have hl41 := hl41.mono S_
        have h88 := h88.mono S_
        have r95 := r95.mono S_
        have h151 := S_ _ _ h151
        have hl152 := hl152.mono S_
        have S171 := S171.trans S_
        have hl172 := hl172.mono S_
        have r175 := r175.mono S_
        have h182 := h182.mono S_
        obtain ⟨p191, w192, e193, h194, hl195⟩ := R.lst_ r175
        cases e193
        refine ⟨_, rfl, _, _, _, rfl, (.inl (O190.s _ _ h194)), hl195.len, _, _, rfl, rfl, _, _, R.int, R.int, _, rfl, ?_⟩
        refine iteD (fun q196 => ?_) (fun q196 => ?_)
        · have hk := wp_if hk q196
          refine ⟨_, rfl, _, (O190.at 0 rfl), (comp_len la168 hi164 hl152.len c158), ?_⟩
          exact ⟨F187, (), acc166 ++ [y153], wa167 ++ [V.ref p191], S171, O190.set 0 (.lst (wa167 ++ [V.ref p191])) rfl, RL.snoc hl172 r175, by rw [List.length_append]; exact Nat.succ_le_succ la168, hk⟩
        · have hk := wp_el hk q196
          exact ⟨F187, (), acc166, wa167, S171, O190, hl172, Nat.le_succ_of_le la168, hk⟩
      · have hk := wp_el hk q184
        refine iteF ?_
        exact ⟨F178, (), acc166, wa167, S171, O179, hl172, Nat.le_succ_of_le la168, hk⟩
    rintro H198 ⟨F199, st200, acc201, wa202, S203, O204, hl205, la206, hL207⟩
    rw [drop_end hl152.len] at hL207
    have hk := hLd157 _ _ hL207
    have f_script := S203.seq f_script
    have r7 := r7.mono S203
    have r15 := r15.mono S203
    have h19 := S203 _ _ h19
    have r22 := r22.mono S203
    have r23 := r23.mono S203
    have h27 := S203 _ _ h27
    have hl28 := hl28.mono S203
    have r35 := r35.mono S203
    have h40 := S203 _ _ h40
    have hl41 := hl41.mono S203
    have h88 := h88.mono S203
    have r95 := r95.mono S203
    have h151 := S203 _ _ h151
    have hl152 := hl152.mono S203
    obtain ⟨F209, O210, S211, h212⟩ := O204.frzE 0 rfl z197
    have f_script := S211.seq f_script
    have r7 := r7.mono S211
    have r15 := r15.mono S211
    have h19 := S211 _ _ h19
    have r22 := r22.mono S211
    have r23 := r23.mono S211
    have h27 := S211 _ _ h27
    have hl28 := hl28.mono S211
    have r35 := r35.mono S211
    have h40 := S211 _ _ h40
    have hl41 := hl41.mono S211
    have h88 := h88.mono S211
    have r95 := r95.mono S211
    have h151 := S211 _ _ h151
    have hl152 := hl152.mono S211
    have hl205 := hl205.mono S211
    have h213 := R.lst (a := (List Int)) h212 hl205
    obtain ⟨p214, w215, e216, h217, hl218⟩ := R.lst_ r22
    cases e216
    obtain ⟨c220, hk⟩ := wp_chk hk
    obtain ⟨L221, hL222, hLs223, hLd224⟩ := loopM_L hk
    refine ⟨[some (V.ref a_script), some (V.ref p17), some v14, some (V.ref p37), some v94, t144, some (V.ref p159), none, none, none], rfl, _, rfl, _, _, _, _, rfl, rfl, (SqTF O210.s h19), rfl, _, _, _, rfl, (.inl (O210.s _ _ h217)), hl218.len, _, rfl, c220.lo, c220.hi, ?_⟩
    refine for_range (lo := 0) (n := ((r1.1.length : Int)).toNat) (fun i σ H_ => ∃ (F_ : Hp) (st : Unit) (t_0 : Option V), σ = [some (V.ref a_script), some (V.ref p17), some v14, some (V.ref p37), some v94, t144, some (V.ref p159), t_0, none, none] ∧ Same F209 F_ ∧ Ow _ F_ [] H_ ∧ L221 (List.drop i (rangeL 0 (r1.1.length : Int))) st) ⟨F209, (), none, rfl, Same.refl _, O210, hL222⟩ ?_ ?_
    · rintro i225 sg227 H228 hi229 ⟨F233, st231, t232, rfl, S230, O234, hL222⟩
      have f_script := S230.seq f_script
      have r7 := r7.mono S230
      have r15 := r15.mono S230
      have h19 := S230 _ _ h19
      have r22 := r22.mono S230
      have r23 := r23.mono S230
      have h27 := S230 _ _ h27
      have hl28 := hl28.mono S230
      have r35 := r35.mono S230
      have h40 := S230 _ _ h40
      have hl41 := hl41.mono S230
      have h88 := h88.mono S230
      have r95 := r95.mono S230
      have h151 := S230 _ _ h151
      have hl152 := hl152.mono S230
      have h213 := h213.mono S230
      have h217 := S230 _ _ h217
      have hl218 := hl218.mono S230
      rw [rangeL_get0 hi229] at hL222
      have hk := hLs223 _ _ _ hL222
      obtain ⟨y219, he_⟩ : ∃ z_, z_ = 0 + (i225 : Int) := ⟨_, rfl⟩
      try rw [← he_] at hk
      rw [← he_]
      refine ⟨_, rfl, _, rfl, _, _, _, _, rfl, O234.pre0, r15, wp_call hk (fun r236 er237 hk F238 H239 g240 p241 w242 hn243 hf244 h245 hl246 => ?_) (fun n hn C H1 hC kp => hn.elim)⟩
      have O247 := O234.call0 g240
      have S_ := g240.f
      have f_script := S_.seq f_script
      have r7 := r7.mono S_
      have r15 := r15.mono S_
      have h19 := S_ _ _ h19
      have r22 := r22.mono S_
      have r23 := r23.mono S_
      have h27 := S_ _ _ h27
      have hl28 := hl28.mono S_
      have r35 := r35.mono S_
      have h40 := S_ _ _ h40
      have hl41 := hl41.mono S_
      have h88 := h88.mono S_
      have r95 := r95.mono S_
      have h151 := S_ _ _ h151
      have hl152 := hl152.mono S_
      have h213 := h213.mono S_
      have h217 := S_ _ _ h217
      have hl218 := hl218.mono S_
      have S230 := S230.trans S_
      have O248 := O234.got O247 rfl hn243 hf244 h245
      have z249 := O234.was hn243
      obtain ⟨p250, w251, e252, h253, hl254⟩ := R.lst_ h213
      cases e252
      obtain ⟨c260, L256, hL257, hLs258, hLd259⟩ := compS_L hk
      refine ⟨_, rfl, _, rfl, _, rfl, ⟨_, (SqLF O248.s h253)⟩, fun p261 hp262 => ?_⟩
      have z284 := O248.was hp262
      refine lc_list (K := K) (xs := w251) (fun i H => ∃ (F_ : Hp) (st : Unit) (acc : List (List Int)) (wa : List V), Same F238 F_ ∧ Ow _ F_ [(p261, .lst wa), (p241, .lst w242)] H ∧ RL F_ wa acc ∧ wa.length ≤ i ∧ L256 (List.drop i acc201) acc st) ⟨F238, (), [], [], Same.refl _, O248.new hp262, RL.nil, Nat.zero_le _, hL257⟩ (fun i_ H_ _ hp_ => ?_) ?_ ?_
      · obtain ⟨_, _, _, _, hS_, hO_, _⟩ := hp_
        exact SqLF hO_.s (hS_ _ _ h253)
      · rintro i263 x264 H265 hi266 ⟨F271, st272, acc268, wa269, S273, O275, hl274, la270, hL257⟩
        have f_script := S273.seq f_script
        have r7 := r7.mono S273
        have r15 := r15.mono S273
        have h19 := S273 _ _ h19
        have r22 := r22.mono S273
        have r23 := r23.mono S273
        have h27 := S273 _ _ h27
        have hl28 := hl28.mono S273
        have r35 := r35.mono S273
        have h40 := S273 _ _ h40
        have hl41 := hl41.mono S273
        have h88 := h88.mono S273
        have r95 := r95.mono S273
        have h151 := S273 _ _ h151
        have hl152 := hl152.mono S273
        have h213 := h213.mono S273
        have h217 := S273 _ _ h217
        have hl218 := hl218.mono S273
        have S230 := S230.trans S273
        have hl246 := hl246.mono S273
        have h253 := S273 _ _ h253
        have hl254 := hl254.mono S273
        obtain ⟨y255, e276, r277⟩ := RL.got hl254 hi266
        rw [drop_at e276] at hL257
        have hk := hLs258 _ _ _ _ hL257
        obtain ⟨p278, w279, e280, h281, hl282⟩ := R.lst_ r277
        cases e280
        refine ⟨rfl, _, rfl, _, rfl, _, _, _, _, R.int, rfl, (.inl (O275.s _ _ h281)), (RL.mono (hl282) O275.s), _, rfl, ?_⟩
        refine iteD (fun q283 => ?_) (fun q283 => ?_)
        · have hk := wp_if hk q283
          refine ⟨_, rfl, _, (O275.at 0 rfl), (comp_len la270 hi266 hl254.len c260), ?_⟩
          exact ⟨F271, (), acc268 ++ [y255], wa269 ++ [V.ref p278], S273, O275.set 0 (.lst (wa269 ++ [V.ref p278])) rfl, RL.snoc hl274 r277, by rw [List.length_append]; exact Nat.succ_le_succ la270, hk⟩
        · have hk := wp_el hk q283
          exact ⟨F271, (), acc268, wa269, S273, O275, hl274, Nat.le_succ_of_le la270, hk⟩
      rintro H285 ⟨F286, st287, acc288, wa289, S290, O291, hl292, la293, hL294⟩
      rw [drop_end hl254.len] at hL294
      have hk := hLd259 _ _ hL294
      have f_script := S290.seq f_script
      have r7 := r7.mono S290
      have r15 := r15.mono S290
      have h19 := S290 _ _ h19
      have r22 := r22.mono S290
      have r23 := r23.mono S290
      have h27 := S290 _ _ h27
      have hl28 := hl28.mono S290
      have r35 := r35.mono S290
      have h40 := S290 _ _ h40
      have hl41 := hl41.mono S290
      have h88 := h88.mono S290
      have r95 := r95.mono S290
      have h151 := S290 _ _ h151
      have hl152 := hl152.mono S290
      have h213 := h213.mono S290
      have h217 := S290 _ _ h217
      have hl218 := hl218.mono S290
      have S230 := S230.trans S290
      have hl246 := hl246.mono S290
      have h253 := S290 _ _ h253
      have hl254 := hl254.mono S290
      obtain ⟨F296, O297, S298, h299⟩ := O291.frzE 0 rfl z284
      have f_script := S298.seq f_script
      have r7 := r7.mono S298
      have r15 := r15.mono S298
      have h19 := S298 _ _ h19
      have r22 := r22.mono S298
      have r23 := r23.mono S298
      have h27 := S298 _ _ h27
      have hl28 := hl28.mono S298
      have r35 := r35.mono S298
      have h40 := S298 _ _ h40
      have hl41 := hl41.mono S298
      have h88 := h88.mono S298
      have r95 := r95.mono S298
      have h151 := S298 _ _ h151
      have hl152 := hl152.mono S298
      have h213 := h213.mono S298
      have h217 := S298 _ _ h217
      have hl218 := hl218.mono S298
      have S230 := S230.trans S298
      have hl246 := hl246.mono S298
      have h253 := S298 _ _ h253
      have hl254 := hl254.mono S298
      have hl292 := hl292.mono S298
      have h300 := R.lst (a := (List Int)) h299 hl292
      refine ⟨_, _, _, _, _, rfl, O297.pre0, r7, h300, wp_call hk (fun r301 er302 hk F303 H304 g305 v306 r307 => ?_) (fun n hn C H1 hC kp => hn.elim)⟩
      have O308 := O297.call0 g305
      have S_ := g305.f
      have f_script := S_.seq f_script
      have r7 := r7.mono S_
      have r15 := r15.mono S_
      have h19 := S_ _ _ h19
      have r22 := r22.mono S_
      have r23 := r23.mono S_
      have h27 := S_ _ _ h27
      have hl28 := hl28.mono S_
      have r35 := r35.mono S_
      have h40 := S_ _ _ h40
      have hl41 := hl41.mono S_
      have h88 := h88.mono S_
      have r95 := r95.mono S_
      have h151 := S_ _ _ h151
      have hl152 := hl152.mono S_
      have h213 := h213.mono S_
      have h217 := S_ _ _ h217
      have hl218 := hl218.mono S_
      have S230 := S230.trans S_
      have hl246 := hl246.mono S_
      have h253 := S_ _ _ h253
      have hl254 := hl254.mono S_
      have h300 := h300.mono S_
      refine ⟨_, _, _, _, _, _, rfl, (O308.pre1 0 rfl), hl246, r307, wp_call hk (fun r309 er310 hk F311 H312 w314 g313 h315 hl316 => ?_) (fun n hn C H1 hC kp => hn.elim)⟩
      have O317 := O308.call1 g313 0 rfl h315
      have S_ := g313.f
      have f_script := S_.seq f_script
      have r7 := r7.mono S_
      have r15 := r15.mono S_
      have h19 := S_ _ _ h19
      have r22 := r22.mono S_
      have r23 := r23.mono S_
      have h27 := S_ _ _ h27
      have hl28 := hl28.mono S_
      have r35 := r35.mono S_
      have h40 := S_ _ _ h40
      have hl41 := hl41.mono S_
      have h88 := h88.mono S_
      have r95 := r95.mono S_
      have h151 := S_ _ _ h151
      have hl152 := hl152.mono S_
      have h213 := h213.mono S_
      have h217 := S_ _ _ h217
      have hl218 := hl218.mono S_
      have S230 := S230.trans S_
      have h253 := S_ _ _ h253
      have hl254 := hl254.mono S_
      have h300 := h300.mono S_
      have r307 := r307.mono S_
      refine ⟨_, rfl, ?_⟩
      refine iteBN (fun q318 => ?_) (fun q318 => ?_)
      · have hk := wp_if hk q318
        have O319 := O317.drop 0
        exact ⟨F311, (), some (V.int y219), rfl, S230, O319, hk⟩
      · have hk := wp_el hk q318
        exact hk _ _  O317.g 
    rintro sg320 H321 ⟨F326, st323, t325, rfl, S322, O327, hL324⟩
    rw [rangeL_end0] at hL324
    have hk := hLd224 _ hL324
    have f_script := S322.seq f_script
    have r7 := r7.mono S322
    have r15 := r15.mono S322
    have h19 := S322 _ _ h19
    have r22 := r22.mono S322
    have r23 := r23.mono S322
    have h27 := S322 _ _ h27
    have hl28 := hl28.mono S322
    have r35 := r35.mono S322
    have h40 := S322 _ _ h40
    have hl41 := hl41.mono S322
    have h88 := h88.mono S322
    have r95 := r95.mono S322
    have h151 := S322 _ _ h151
    have hl152 := hl152.mono S322
    have h213 := h213.mono S322
    have h217 := S322 _ _ h217
    have hl218 := hl218.mono S322
    refine ⟨_, rfl, _, _, _, _, rfl, O327.pre0, f_script, wp_call hk (fun r329 er330 hk F331 H332 g333 => ?_) (fun n hn C H1 hC kp => hn.elim)⟩
    have O334 := O327.call0 g333
    have S_ := g333.f
    have f_script := S_.seq f_script
    have r7 := r7.mono S_
    have r15 := r15.mono S_
    have h19 := S_ _ _ h19
    have r22 := r22.mono S_
    have r23 := r23.mono S_
    have h27 := S_ _ _ h27
    have hl28 := hl28.mono S_
    have r35 := r35.mono S_
    have h40 := S_ _ _ h40
    have hl41 := hl41.mono S_
    have h88 := h88.mono S_
    have r95 := r95.mono S_
    have h151 := S_ _ _ h151
    have hl152 := hl152.mono S_
    have h213 := h213.mono S_
    have h217 := S_ _ _ h217
    have hl218 := hl218.mono S_
    obtain ⟨c335, hk⟩ := wp_chk hk
    obtain ⟨p336, w337, e338, h339, hl340⟩ := R.lst_ r22
    cases e338
    obtain ⟨p341, w342, e343, h344, hl345⟩ := R.lst_ r22
    cases e343
    refine ⟨_, _, rfl, rfl, (by decide), _, _, rfl, rfl, c335, [some (V.ref a_script), some (V.ref p17), some v14, some (V.ref p37), some v94, t144, some (V.ref p159), t325, some (V.int (r329 % ((10 : Int) ^ Int.toNat (20 : Int)))), none], rfl, _, rfl, _, rfl, _, _, _, _, rfl, rfl, (SqTF O334.s h19), rfl, _, _, _, rfl, (.inl (O334.s _ _ h339)), hl340.len, _, rfl, _, rfl, _, _, rfl, rfl, _, rfl, _, _, _, _, rfl, rfl, (SqTF O334.s h19), rfl, _, _, _, rfl, (.inl (O334.s _ _ h344)), hl345.len, _, rfl, _, _, rfl, rfl, (by show 4 ≤ sizeLine; decide), fun p346 hp347 => ?_⟩
    have hl353 : RL (a := Int) F331 ([V.int (-(1 : Int)), V.int (r1.1.length : Int), V.int ((-(1 : Int)) - (r329 % ((10 : Int) ^ Int.toNat (20 : Int)))), V.int ((r1.1.length : Int) + (r329 % ((10 : Int) ^ Int.toNat (20 : Int))))]) ([(-(1 : Int)), (r1.1.length : Int), ((-(1 : Int)) - (r329 % ((10 : Int) ^ Int.toNat (20 : Int)))), ((r1.1.length : Int) + (r329 % ((10 : Int) ^ Int.toNat (20 : Int))))]) := RL.cons R.int (RL.cons R.int (RL.cons R.int (RL.cons R.int RL.nil)))
    obtain ⟨F348, O349, S350, h351⟩ := O334.putE hp347 (.lst ([V.int (-(1 : Int)), V.int (r1.1.length : Int), V.int ((-(1 : Int)) - (r329 % ((10 : Int) ^ Int.toNat (20 : Int)))), V.int ((r1.1.length : Int) + (r329 % ((10 : Int) ^ Int.toNat (20 : Int))))]))
    have f_script := S350.seq f_script
    have r7 := r7.mono S350
    have r15 := r15.mono S350
    have h19 := S350 _ _ h19
    have r22 := r22.mono S350
    have r23 := r23.mono S350
    have h27 := S350 _ _ h27
    have hl28 := hl28.mono S350
    have r35 := r35.mono S350
    have h40 := S350 _ _ h40
    have hl41 := hl41.mono S350
    have h88 := h88.mono S350
    have r95 := r95.mono S350
    have h151 := S350 _ _ h151
    have hl152 := hl152.mono S350
    have h213 := h213.mono S350
    have h217 := S350 _ _ h217
    have hl218 := hl218.mono S350
    have h339 := S350 _ _ h339
    have hl340 := hl340.mono S350
    have h344 := S350 _ _ h344
    have hl345 := hl345.mono S350
    have hl353 := hl353.mono S350
    have h352 := R.lst (a := Int) h351 hl353
    obtain ⟨p354, w355, e356, h357, hl358⟩ := R.lst_ h352
    cases e356
    obtain ⟨L360, hL361, hLs362, hLd363⟩ := loopM_L hk
    refine ⟨_, rfl, ⟨_, (SqLF O349.s h357)⟩, ?_⟩
    refine for_list (K := K) (xs := w355) (fun i σ H_ => ∃ (F_ : Hp) (st : Unit) (t_0 : Option V), σ = [some (V.ref a_script), some (V.ref p17), some v14, some (V.ref p37), some v94, t144, some (V.ref p159), t_0, some (V.int (r329 % ((10 : Int) ^ Int.toNat (20 : Int)))), none] ∧ Same F348 F_ ∧ Ow _ F_ [] H_ ∧ L360 (List.drop i ([(-(1 : Int)), (r1.1.length : Int), ((-(1 : Int)) - (r329 % ((10 : Int) ^ Int.toNat (20 : Int)))), ((r1.1.length : Int) + (r329 % ((10 : Int) ^ Int.toNat (20 : Int))))])) st) ⟨F348, (), t325, rfl, Same.refl _, O349, hL361⟩ (fun i_ σ_ H_ _ hp_ => ?_) ?_ ?_
    · obtain ⟨_, _, _, _, hS_, hO_, _⟩ := hp_
      exact SqLF hO_.s (hS_ _ _ h357)
    · rintro i364 x365 sg366 H367 hi368 ⟨F372, st370, t371, rfl, S369, O373, hL361⟩
      have f_script := S369.seq f_script
      have r7 := r7.mono S369
      have r15 := r15.mono S369
      have h19 := S369 _ _ h19
      have r22 := r22.mono S369
      have r23 := r23.mono S369
      have h27 := S369 _ _ h27
      have hl28 := hl28.mono S369
      have r35 := r35.mono S369
      have h40 := S369 _ _ h40
      have hl41 := hl41.mono S369
      have h88 := h88.mono S369
      have r95 := r95.mono S369
      have h151 := S369 _ _ h151
      have hl152 := hl152.mono S369
      have h213 := h213.mono S369
      have h217 := S369 _ _ h217
      have hl218 := hl218.mono S369
      have h339 := S369 _ _ h339
      have hl340 := hl340.mono S369
      have h344 := S369 _ _ h344
      have hl345 := hl345.mono S369
      have h352 := h352.mono S369
      have h357 := S369 _ _ h357
      have hl358 := hl358.mono S369
      obtain ⟨y359, e374, r375⟩ := RL.got hl358 hi368
      rw [drop_at e374] at hL361
      have hk := hLs362 _ _ _ hL361
      obtain rfl := R.int_ r375
      refine ⟨_, rfl, _, rfl, _, _, _, _, rfl, O373.pre0, r15, wp_call hk (fun r376 er377 hk F378 H379 g380 => ?_) (fun n hn C H1 hC kp => hn.elim)⟩
      have O381 := O373.call0 g380
      have S_ := g380.f
      have f_script := S_.seq f_script
      have r7 := r7.mono S_
      have r15 := r15.mono S_
      have h19 := S_ _ _ h19
      have r22 := r22.mono S_
      have r23 := r23.mono S_
      have h27 := S_ _ _ h27
      have hl28 := hl28.mono S_
      have r35 := r35.mono S_
      have h40 := S_ _ _ h40
      have hl41 := hl41.mono S_
      have h88 := h88.mono S_
      have r95 := r95.mono S_
      have h151 := S_ _ _ h151
      have hl152 := hl152.mono S_
      have h213 := h213.mono S_
      have h217 := S_ _ _ h217
      have hl218 := hl218.mono S_
      have h339 := S_ _ _ h339
      have hl340 := hl340.mono S_
      have h344 := S_ _ _ h344
      have hl345 := hl345.mono S_
      have h352 := h352.mono S_
      have h357 := S_ _ _ h357
      have hl358 := hl358.mono S_
      have S369 := S369.trans S_
      refine ⟨_, rfl, ?_⟩
      refine iteBN (fun q382 => ?_) (fun q382 => ?_)
      · have hk := wp_if hk q382
        exact ⟨F378, (), some (V.int y359), rfl, S369, O381, hk⟩
      · have hk := wp_el hk q382
        exact hk _ _  O381.g 
    rintro sg383 H384 ⟨F389, st386, t388, rfl, S385, O390, hL387⟩
    rw [drop_end hl358.len] at hL387
    have hk := hLd363 _ hL387
    have f_script := S385.seq f_script
    have r7 := r7.mono S385
    have r15 := r15.mono S385
    have h19 := S385 _ _ h19
    have r22 := r22.mono S385
    have r23 := r23.mono S385
    have h27 := S385 _ _ h27
    have hl28 := hl28.mono S385
    have r35 := r35.mono S385
    have h40 := S385 _ _ h40
    have hl41 := hl41.mono S385
    have h88 := h88.mono S385
    have r95 := r95.mono S385
    have h151 := S385 _ _ h151
    have hl152 := hl152.mono S385
    have h213 := h213.mono S385
    have h217 := S385 _ _ h217
    have hl218 := hl218.mono S385
    have h339 := S385 _ _ h339
    have hl340 := hl340.mono S385
    have h344 := S385 _ _ h344
    have hl345 := hl345.mono S385
    have h352 := h352.mono S385
    have h357 := S385 _ _ h357
    have hl358 := hl358.mono S385
    refine ⟨_, rfl, _, rfl, _, _, (R.mono r15 O390.s), (R.mono r7 O390.s), ?_⟩
    exact hk _ _  O390.g 
end
set_option maxHeartbeats 2000000
def m_lengths_of (x_tree : ((List Int) × (List (T3 Int Int Int)))) : M ((List ((Int × Int) × Int))) :=
loopN (fun (y19 : (T3 Int Int Int)) (st30 : (List ((Int × Int) × Int))) =>
putD st30 ((y19.a, y19.b).1, (y19.a, y19.b).2) y19.c >>= fun z64 =>
putD z64 ((y19.b, y19.a).1, (y19.b, y19.a).2) y19.c >>= fun z82 =>
.ok z82) x_tree.2 ([] : (List ((Int × Int) × Int))) >>= fun st88 =>
.ok st88
def m_order_of (x_near : (List (List Int))) (x_branches : (List (Int × Int))) : M ((List (Int × Int))) :=
compS (fun (y7 : (Int × Int)) (st24 : Unit) =>
opt (atI x_near y7.2) >>= fun y49 =>
.ok (some ((y7.1, y7.2), ((y49.length : Int) - (1 : Int))), ())) x_branches () >>= fun q77 =>
compS (fun (y104 : (Int × Int)) (st121 : Unit) =>
opt (dGet (mergeDT q77.1) y104) >>= fun y127 =>
if y127 = (0 : Int) then (
.ok (some y104, ()))
else (
.ok (none, ()))) x_branches () >>= fun q151 =>
whL (r := Unit) (fun (st162 : Int × (List ((Int × Int) × Int)) × (List (Int × Int))) =>
if st162.1 < (st162.2.2.length : Int) then (
opt (atI st162.2.2 st162.1) >>= fun y174 =>
opt (atI x_near y174.1) >>= fun y191 =>
loopN (fun (y201 : Int) (st212 : (List ((Int × Int) × Int)) × (List (Int × Int))) =>
if y201 ≠ y174.2 then (
opt (dGet st212.1 ((y201, y174.1).1, (y201, y174.1).2)) >>= fun y230 =>
putD st212.1 ((y201, y174.1).1, (y201, y174.1).2) (y230 - (1 : Int)) >>= fun z243 =>
opt (dGet z243 (y201, y174.1)) >>= fun y253 =>
if y253 = (0 : Int) then (
appL st212.2 (y201, y174.1) >>= fun _ =>
.ok (z243, (st212.2 ++ [(y201, y174.1)])))
else (
.ok (z243, st212.2)))
else (
.ok (st212.1, st212.2))) y191 (st162.2.1, st162.2.2) >>= fun st280 =>
.ok (.go ((st162.1 + (1 : Int)), st280.1, st280.2)))
else (
.ok (.stop (st162.1, st162.2.1, st162.2.2)))) 1000000 ((0 : Int), (mergeDT q77.1), q151.1) >>= fun f303 => match f303 with
| .rt _ => bad
| .nx st292 =>
.ok st292.2.2
def m_may_stand : Nat → Sm → (Tp Str) → Int → M (Bool)
  | 0, _, _, _ => bad
  | k_ + 1, x_told, x_leaves, x_many =>
    if (Sm.word x_told) = ("number" : Str) then (
    .ok true)
    else (
    if (Sm.word x_told) ∈ ([(("own" : Str), ("tie" : Str)).1, (("own" : Str), ("tie" : Str)).2]) then (
    .ok (decide ((Sm.word x_told) ∈ (Tp.l x_leaves))))
    else (
    if (Sm.word x_told) ∈ ([(("so" : Str), ("more" : Str)).1, (("so" : Str), ("more" : Str)).2]) then (
    if (Sm.word x_told) ∈ (Tp.l x_leaves) then (
    opt (Sm.int? x_told) >>= fun y63 =>
    if (0 : Int) ≤ y63 then (
    .ok (decide (y63 < x_many)))
    else (
    .ok false))
    else (
    .ok false))
    else (
    opt (Sm.two? x_told) >>= fun y70 =>
    m_may_stand k_ y70.1 x_leaves x_many >>= fun r80 =>
    if r80 = true then (
    opt (Sm.two? x_told) >>= fun y87 =>
    m_may_stand k_ y87.2 x_leaves x_many >>= fun r97 =>
    .ok r97)
    else (
    .ok false))))
def m_is_rule (x_thing : (T4 (List Sm) (List Sm) (List Sm) Sm)) : M (Bool) :=
if (1 : Int) ≤ (x_thing.a.length : Int) then (
if (x_thing.a.length : Int) ≤ (3 : Int) then (
if (x_thing.b.length : Int) ≠ (x_thing.a.length : Int) then (
.ok false)
else (
if (x_thing.c.length : Int) ≠ (x_thing.a.length : Int) then (
.ok false)
else (
loopM (fun (y93 : ((List Sm) × (Tp Str))) (st104 : Unit) =>
compS (fun (y123 : Sm) (st140 : Unit) =>
m_may_stand 60 y123 y93.2 (x_thing.a.length : Int) >>= fun r146 =>
if r146 = true then (
.ok (none, ()))
else (
.ok (some y123, ()))) y93.1 () >>= fun q164 =>
if q164.1 ≠ ([] : List Sm) then (
.ok (.rt false))
else (
.ok (.nx ()))) ([(T3.mk (x_thing.a, (Tp.mk [("own" : Str)])) (x_thing.b, (Tp.mk [(T3.mk ("own" : Str) ("tie" : Str) ("more" : Str)).a, (T3.mk ("own" : Str) ("tie" : Str) ("more" : Str)).b, (T3.mk ("own" : Str) ("tie" : Str) ("more" : Str)).c])) (x_thing.c, (Tp.mk [(T3.mk ("own" : Str) ("so" : Str) ("more" : Str)).a, (T3.mk ("own" : Str) ("so" : Str) ("more" : Str)).b, (T3.mk ("own" : Str) ("so" : Str) ("more" : Str)).c]))).a, (T3.mk (x_thing.a, (Tp.mk [("own" : Str)])) (x_thing.b, (Tp.mk [(T3.mk ("own" : Str) ("tie" : Str) ("more" : Str)).a, (T3.mk ("own" : Str) ("tie" : Str) ("more" : Str)).b, (T3.mk ("own" : Str) ("tie" : Str) ("more" : Str)).c])) (x_thing.c, (Tp.mk [(T3.mk ("own" : Str) ("so" : Str) ("more" : Str)).a, (T3.mk ("own" : Str) ("so" : Str) ("more" : Str)).b, (T3.mk ("own" : Str) ("so" : Str) ("more" : Str)).c]))).b, (T3.mk (x_thing.a, (Tp.mk [("own" : Str)])) (x_thing.b, (Tp.mk [(T3.mk ("own" : Str) ("tie" : Str) ("more" : Str)).a, (T3.mk ("own" : Str) ("tie" : Str) ("more" : Str)).b, (T3.mk ("own" : Str) ("tie" : Str) ("more" : Str)).c])) (x_thing.c, (Tp.mk [(T3.mk ("own" : Str) ("so" : Str) ("more" : Str)).a, (T3.mk ("own" : Str) ("so" : Str) ("more" : Str)).b, (T3.mk ("own" : Str) ("so" : Str) ("more" : Str)).c]))).c]) () >>= fun f188 => match f188 with
| .rt z_ => .ok z_
| .nx st182 =>
m_may_stand 60 x_thing.d (Tp.mk [(("own" : Str), ("so" : Str)).1, (("own" : Str), ("so" : Str)).2]) (x_thing.a.length : Int) >>= fun r196 =>
.ok r196)))
else (
.ok false))
else (
.ok false)
def m_need_rule (x_rule : (T4 (List Sm) (List Sm) (List Sm) Sm)) : M (Unit) :=
m_is_rule x_rule >>= fun r1 =>
if r1 = true then (
.ok ())
else (
raise "NoRule")
def m_sum_at : Nat → Sm → Int → Int → (List Int) → (List Int) → M (Int)
  | 0, _, _, _, _, _ => bad
  | k_ + 1, x_sum_told, x_own, x_tie, x_so, x_more =>
    if (Sm.word x_sum_told) = ("number" : Str) then (
    opt (Sm.int? x_sum_told) >>= fun y6 =>
    .ok y6)
    else (
    if (Sm.word x_sum_told) = ("own" : Str) then (
    .ok x_own)
    else (
    if (Sm.word x_sum_told) = ("tie" : Str) then (
    .ok x_tie)
    else (
    if (Sm.word x_sum_told) = ("so" : Str) then (
    opt (Sm.int? x_sum_told) >>= fun y15 =>
    opt (atI x_so y15) >>= fun y26 =>
    .ok y26)
    else (
    if (Sm.word x_sum_told) = ("more" : Str) then (
    opt (Sm.int? x_sum_told) >>= fun y32 =>
    opt (atI x_more y32) >>= fun y43 =>
    .ok y43)
    else (
    opt (Sm.two? x_sum_told) >>= fun y48 =>
    compS (fun (y65 : Sm) (st82 : Unit) =>
    m_sum_at k_ y65 x_own x_tie x_so x_more >>= fun r88 =>
    .ok (some r88, ())) ([y48.1, y48.2]) () >>= fun q105 =>
    two2 q105.1 >>= fun (x116, x117) =>
    if (Sm.word x_sum_told) = ("plus" : Str) then (
    .ok (x116 + x117))
    else (
    if (Sm.word x_sum_told) = ("less" : Str) then (
    .ok (x116 - x117))
    else (
    if (Sm.word x_sum_told) = ("times" : Str) then (
    chk (CMulW x116 x117) >>= fun _ =>
    .ok (x116 * x117))
    else (
    if (Sm.word x_sum_told) = ("most" : Str) then (
    .ok (if x117 > x116 then x117 else x116))
    else (
    .ok (if x117 < x116 then x117 else x116))))))))))
def m_begun (x_rule : (T4 (List Sm) (List Sm) (List Sm) Sm)) (x_own : Int) : M ((List Int)) :=
compS (fun (y18 : Sm) (st35 : Unit) =>
m_sum_at 12 y18 x_own (0 : Int) ([] : List Int) ([] : List Int) >>= fun r57 =>
.ok (some r57, ())) x_rule.a () >>= fun q74 =>
.ok q74.1
def m_joined (x_rule : (T4 (List Sm) (List Sm) (List Sm) Sm)) (x_so : (List Int)) (x_more : (List Int)) (x_own : Int) : M ((List Int)) :=
compS (fun (y18 : Sm) (st35 : Unit) =>
m_sum_at 12 y18 x_own (0 : Int) x_so x_more >>= fun r41 =>
.ok (some r41, ())) x_rule.c () >>= fun q58 =>
.ok q58.1
def m_row_with (x_tree : ((List Int) × (List (T3 Int Int Int)))) (x_rule : (T4 (List Sm) (List Sm) (List Sm) Sm)) (x_place : Int) (x_near : (List (List Int))) : M ((List Int)) :=
opt (atI x_tree.1 x_place) >>= fun y13 =>
m_begun x_rule y13 >>= fun r18 =>
loopN (fun (y42 : (List Int)) (st53 : (List Int)) =>
m_joined x_rule st53 y42 y13 >>= fun r61 =>
.ok r61) x_near r18 >>= fun st83 =>
.ok st83
def m_over_tie (x_rule : (T4 (List Sm) (List Sm) (List Sm) Sm)) (x_more : (List Int)) (x_own : Int) (x_tie : Int) : M ((List Int)) :=
compS (fun (y18 : Sm) (st35 : Unit) =>
m_sum_at 12 y18 x_own x_tie ([] : List Int) x_more >>= fun r49 =>
.ok (some r49, ())) x_rule.b () >>= fun q66 =>
.ok q66.1
def m_told_by (x_rule : (T4 (List Sm) (List Sm) (List Sm) Sm)) (x_so : (List Int)) (x_own : Int) : M (Int) :=
m_sum_at 12 x_rule.d x_own (0 : Int) x_so ([] : List Int) >>= fun r20 =>
.ok r20
def m_every_branch (x_tree : ((List Int) × (List (T3 Int Int Int)))) : M ((List (Int × Int))) :=
m_lengths_of x_tree >>= fun r2 =>
.ok (sortT (List.map (fun (x : (Int × Int) × Int) => x.1) r2))
def m_rows_known (x_tree : ((List Int) × (List (T3 Int Int Int)))) (x_rule : (T4 (List Sm) (List Sm) (List Sm) Sm)) : M ((List ((Int × Int) × (List Int)))) :=
m_tied_places (x_tree.1.length : Int) x_tree.2 >>= fun r13 =>
m_lengths_of x_tree >>= fun r32 =>
m_every_branch x_tree >>= fun r46 =>
m_order_of r13 r46 >>= fun r65 =>
loopN (fun (y89 : (Int × Int)) (st100 : (List ((Int × Int) × (List Int)))) =>
opt (atI r13 y89.2) >>= fun y122 =>
compS (fun (y132 : Int) (st149 : Unit) =>
if y132 ≠ y89.1 then (
opt (dGet st100 (y89.2, y132)) >>= fun y163 =>
.ok (some y163, ()))
else (
.ok (none, ()))) y122 () >>= fun q186 =>
m_row_with x_tree x_rule y89.2 q186.1 >>= fun r192 =>
opt (atI x_tree.1 y89.2) >>= fun y205 =>
opt (dGet r32 (y89.1, y89.2)) >>= fun y222 =>
m_over_tie x_rule r192 y205 y222 >>= fun r234 =>
putD st100 ((y89.1, y89.2).1, (y89.1, y89.2).2) r234 >>= fun z268 =>
.ok z268) r65 ([] : (List ((Int × Int) × (List Int)))) >>= fun st274 =>
.ok st274
def m_seats_by (x_tree : ((List Int) × (List (T3 Int Int Int)))) (x_rule : (T4 (List Sm) (List Sm) (List Sm) Sm)) (x_rows : (List ((Int × Int) × (List Int)))) : M ((List Int)) :=
m_tied_places (x_tree.1.length : Int) x_tree.2 >>= fun r13 =>
loopN (fun (y43 : (Int × Int)) (st54 : (List Int)) =>
opt (atI r13 y43.1) >>= fun y88 =>
compS (fun (y98 : Int) (st115 : Unit) =>
opt (dGet x_rows (y43.1, y98)) >>= fun y133 =>
.ok (some y133, ())) y88 () >>= fun q156 =>
m_row_with x_tree x_rule y43.1 q156.1 >>= fun r162 =>
m_told_by x_rule r162 y43.2 >>= fun r170 =>
appL st54 r170 >>= fun _ =>
.ok (st54 ++ [r170])) (enumL x_tree.1) ([] : List Int) >>= fun st183 =>
.ok st183
def m_all_seats (x_tree : ((List Int) × (List (T3 Int Int Int)))) (x_rule : (T4 (List Sm) (List Sm) (List Sm) Sm)) : M ((List Int)) :=
m_need_rule x_rule >>= fun r1 =>
m_rows_known x_tree x_rule >>= fun r8 =>
m_seats_by x_tree x_rule r8 >>= fun r16 =>
.ok r16
def m_row_down : Nat → ((List Int) × (List (T3 Int Int Int))) → (T4 (List Sm) (List Sm) (List Sm) Sm) → (List (List Int)) → (List ((Int × Int) × Int)) → (Int × Int) → M ((List Int))
  | 0, _, _, _, _, _ => bad
  | k_ + 1, x_tree, x_rule, x_near, x_lengths, x_branch =>
    opt (atI x_near x_branch.2) >>= fun y13 =>
    compS (fun (y23 : Int) (st40 : Unit) =>
    if y23 ≠ x_branch.1 then (
    m_row_down k_ x_tree x_rule x_near x_lengths (x_branch.2, y23) >>= fun r54 =>
    .ok (some r54, ()))
    else (
    .ok (none, ()))) y13 () >>= fun q84 =>
    m_row_with x_tree x_rule x_branch.2 q84.1 >>= fun r91 =>
    opt (atI x_tree.1 x_branch.2) >>= fun y111 =>
    opt (dGet x_lengths x_branch) >>= fun y121 =>
    m_over_tie x_rule r91 y111 y121 >>= fun r126 =>
    .ok r126
def m_seat_worth (x_tree : ((List Int) × (List (T3 Int Int Int)))) (x_rule : (T4 (List Sm) (List Sm) (List Sm) Sm)) (x_place : Int) : M (Int) :=
m_need_rule x_rule >>= fun r1 =>
m_need_place x_tree x_place >>= fun r7 =>
m_tied_places (x_tree.1.length : Int) x_tree.2 >>= fun r25 =>
m_lengths_of x_tree >>= fun r44 =>
opt (atI r25 x_place) >>= fun y57 =>
compS (fun (y67 : Int) (st84 : Unit) =>
m_row_down 60 x_tree x_rule r25 r44 (x_place, y67) >>= fun r97 =>
.ok (some r97, ())) y57 () >>= fun q127 =>
m_row_with x_tree x_rule x_place q127.1 >>= fun r133 =>
opt (atI x_tree.1 x_place) >>= fun y146 =>
m_told_by x_rule r133 y146 >>= fun r151 =>
.ok r151
def m_farthest_rule  : M ((T4 (List Sm) (List Sm) (List Sm) Sm)) :=
.ok (T4.mk ([(Sm.num ("number" : Str) (0 : Int))]) ([(Sm.two (T3.mk ("plus" : Str) (Sm.num ("more" : Str) (0 : Int)) (Sm.nam ("tie" : Str))).a (T3.mk ("plus" : Str) (Sm.num ("more" : Str) (0 : Int)) (Sm.nam ("tie" : Str))).b (T3.mk ("plus" : Str) (Sm.num ("more" : Str) (0 : Int)) (Sm.nam ("tie" : Str))).c)]) ([(Sm.two (T3.mk ("most" : Str) (Sm.num ("so" : Str) (0 : Int)) (Sm.num ("more" : Str) (0 : Int))).a (T3.mk ("most" : Str) (Sm.num ("so" : Str) (0 : Int)) (Sm.num ("more" : Str) (0 : Int))).b (T3.mk ("most" : Str) (Sm.num ("so" : Str) (0 : Int)) (Sm.num ("more" : Str) (0 : Int))).c)]) (Sm.num ("so" : Str) (0 : Int)))
def m_sum_rule  : M ((T4 (List Sm) (List Sm) (List Sm) Sm)) :=
.ok (T4.mk ([(Sm.num ("number" : Str) (0 : Int)), (Sm.num ("number" : Str) (1 : Int))]) ([(Sm.two (T3.mk ("plus" : Str) (Sm.num ("more" : Str) (0 : Int)) (Sm.two (T3.mk ("times" : Str) (Sm.nam ("tie" : Str)) (Sm.num ("more" : Str) (1 : Int))).a (T3.mk ("times" : Str) (Sm.nam ("tie" : Str)) (Sm.num ("more" : Str) (1 : Int))).b (T3.mk ("times" : Str) (Sm.nam ("tie" : Str)) (Sm.num ("more" : Str) (1 : Int))).c)).a (T3.mk ("plus" : Str) (Sm.num ("more" : Str) (0 : Int)) (Sm.two (T3.mk ("times" : Str) (Sm.nam ("tie" : Str)) (Sm.num ("more" : Str) (1 : Int))).a (T3.mk ("times" : Str) (Sm.nam ("tie" : Str)) (Sm.num ("more" : Str) (1 : Int))).b (T3.mk ("times" : Str) (Sm.nam ("tie" : Str)) (Sm.num ("more" : Str) (1 : Int))).c)).b (T3.mk ("plus" : Str) (Sm.num ("more" : Str) (0 : Int)) (Sm.two (T3.mk ("times" : Str) (Sm.nam ("tie" : Str)) (Sm.num ("more" : Str) (1 : Int))).a (T3.mk ("times" : Str) (Sm.nam ("tie" : Str)) (Sm.num ("more" : Str) (1 : Int))).b (T3.mk ("times" : Str) (Sm.nam ("tie" : Str)) (Sm.num ("more" : Str) (1 : Int))).c)).c), (Sm.num ("more" : Str) (1 : Int))]) ([(Sm.two (T3.mk ("plus" : Str) (Sm.num ("so" : Str) (0 : Int)) (Sm.num ("more" : Str) (0 : Int))).a (T3.mk ("plus" : Str) (Sm.num ("so" : Str) (0 : Int)) (Sm.num ("more" : Str) (0 : Int))).b (T3.mk ("plus" : Str) (Sm.num ("so" : Str) (0 : Int)) (Sm.num ("more" : Str) (0 : Int))).c), (Sm.two (T3.mk ("plus" : Str) (Sm.num ("so" : Str) (1 : Int)) (Sm.num ("more" : Str) (1 : Int))).a (T3.mk ("plus" : Str) (Sm.num ("so" : Str) (1 : Int)) (Sm.num ("more" : Str) (1 : Int))).b (T3.mk ("plus" : Str) (Sm.num ("so" : Str) (1 : Int)) (Sm.num ("more" : Str) (1 : Int))).c)]) (Sm.num ("so" : Str) (0 : Int)))
def m_apart_rule  : M ((T4 (List Sm) (List Sm) (List Sm) Sm)) :=
.ok (T4.mk ([(Sm.num ("number" : Str) (1 : Int)), (Sm.num ("number" : Str) (1 : Int))]) ([(Sm.num ("more" : Str) (0 : Int)), (Sm.num ("more" : Str) (1 : Int))]) ([(Sm.two (T3.mk ("times" : Str) (Sm.num ("so" : Str) (0 : Int)) (Sm.num ("more" : Str) (1 : Int))).a (T3.mk ("times" : Str) (Sm.num ("so" : Str) (0 : Int)) (Sm.num ("more" : Str) (1 : Int))).b (T3.mk ("times" : Str) (Sm.num ("so" : Str) (0 : Int)) (Sm.num ("more" : Str) (1 : Int))).c), (Sm.two (T3.mk ("times" : Str) (Sm.num ("so" : Str) (1 : Int)) (Sm.two (T3.mk ("plus" : Str) (Sm.num ("more" : Str) (0 : Int)) (Sm.num ("more" : Str) (1 : Int))).a (T3.mk ("plus" : Str) (Sm.num ("more" : Str) (0 : Int)) (Sm.num ("more" : Str) (1 : Int))).b (T3.mk ("plus" : Str) (Sm.num ("more" : Str) (0 : Int)) (Sm.num ("more" : Str) (1 : Int))).c)).a (T3.mk ("times" : Str) (Sm.num ("so" : Str) (1 : Int)) (Sm.two (T3.mk ("plus" : Str) (Sm.num ("more" : Str) (0 : Int)) (Sm.num ("more" : Str) (1 : Int))).a (T3.mk ("plus" : Str) (Sm.num ("more" : Str) (0 : Int)) (Sm.num ("more" : Str) (1 : Int))).b (T3.mk ("plus" : Str) (Sm.num ("more" : Str) (0 : Int)) (Sm.num ("more" : Str) (1 : Int))).c)).b (T3.mk ("times" : Str) (Sm.num ("so" : Str) (1 : Int)) (Sm.two (T3.mk ("plus" : Str) (Sm.num ("more" : Str) (0 : Int)) (Sm.num ("more" : Str) (1 : Int))).a (T3.mk ("plus" : Str) (Sm.num ("more" : Str) (0 : Int)) (Sm.num ("more" : Str) (1 : Int))).b (T3.mk ("plus" : Str) (Sm.num ("more" : Str) (0 : Int)) (Sm.num ("more" : Str) (1 : Int))).c)).c)]) (Sm.two (T3.mk ("plus" : Str) (Sm.num ("so" : Str) (0 : Int)) (Sm.num ("so" : Str) (1 : Int))).a (T3.mk ("plus" : Str) (Sm.num ("so" : Str) (0 : Int)) (Sm.num ("so" : Str) (1 : Int))).b (T3.mk ("plus" : Str) (Sm.num ("so" : Str) (0 : Int)) (Sm.num ("so" : Str) (1 : Int))).c))
def m_best_rule  : M ((T4 (List Sm) (List Sm) (List Sm) Sm)) :=
.ok (T4.mk ([(Sm.nam ("own" : Str)), (Sm.num ("number" : Str) (0 : Int))]) ([(Sm.num ("more" : Str) (0 : Int)), (Sm.num ("more" : Str) (1 : Int))]) ([(Sm.two (T3.mk ("plus" : Str) (Sm.num ("so" : Str) (0 : Int)) (Sm.num ("more" : Str) (1 : Int))).a (T3.mk ("plus" : Str) (Sm.num ("so" : Str) (0 : Int)) (Sm.num ("more" : Str) (1 : Int))).b (T3.mk ("plus" : Str) (Sm.num ("so" : Str) (0 : Int)) (Sm.num ("more" : Str) (1 : Int))).c), (Sm.two (T3.mk ("plus" : Str) (Sm.num ("so" : Str) (1 : Int)) (Sm.two (T3.mk ("most" : Str) (Sm.num ("more" : Str) (0 : Int)) (Sm.num ("more" : Str) (1 : Int))).a (T3.mk ("most" : Str) (Sm.num ("more" : Str) (0 : Int)) (Sm.num ("more" : Str) (1 : Int))).b (T3.mk ("most" : Str) (Sm.num ("more" : Str) (0 : Int)) (Sm.num ("more" : Str) (1 : Int))).c)).a (T3.mk ("plus" : Str) (Sm.num ("so" : Str) (1 : Int)) (Sm.two (T3.mk ("most" : Str) (Sm.num ("more" : Str) (0 : Int)) (Sm.num ("more" : Str) (1 : Int))).a (T3.mk ("most" : Str) (Sm.num ("more" : Str) (0 : Int)) (Sm.num ("more" : Str) (1 : Int))).b (T3.mk ("most" : Str) (Sm.num ("more" : Str) (0 : Int)) (Sm.num ("more" : Str) (1 : Int))).c)).b (T3.mk ("plus" : Str) (Sm.num ("so" : Str) (1 : Int)) (Sm.two (T3.mk ("most" : Str) (Sm.num ("more" : Str) (0 : Int)) (Sm.num ("more" : Str) (1 : Int))).a (T3.mk ("most" : Str) (Sm.num ("more" : Str) (0 : Int)) (Sm.num ("more" : Str) (1 : Int))).b (T3.mk ("most" : Str) (Sm.num ("more" : Str) (0 : Int)) (Sm.num ("more" : Str) (1 : Int))).c)).c)]) (Sm.two (T3.mk ("most" : Str) (Sm.num ("so" : Str) (0 : Int)) (Sm.num ("so" : Str) (1 : Int))).a (T3.mk ("most" : Str) (Sm.num ("so" : Str) (0 : Int)) (Sm.num ("so" : Str) (1 : Int))).b (T3.mk ("most" : Str) (Sm.num ("so" : Str) (0 : Int)) (Sm.num ("so" : Str) (1 : Int))).c))
def m_piece_rule  : M ((T4 (List Sm) (List Sm) (List Sm) Sm)) :=
.ok (T4.mk ([(Sm.nam ("own" : Str))]) ([(Sm.two (T3.mk ("most" : Str) (Sm.num ("number" : Str) (0 : Int)) (Sm.num ("more" : Str) (0 : Int))).a (T3.mk ("most" : Str) (Sm.num ("number" : Str) (0 : Int)) (Sm.num ("more" : Str) (0 : Int))).b (T3.mk ("most" : Str) (Sm.num ("number" : Str) (0 : Int)) (Sm.num ("more" : Str) (0 : Int))).c)]) ([(Sm.two (T3.mk ("plus" : Str) (Sm.num ("so" : Str) (0 : Int)) (Sm.num ("more" : Str) (0 : Int))).a (T3.mk ("plus" : Str) (Sm.num ("so" : Str) (0 : Int)) (Sm.num ("more" : Str) (0 : Int))).b (T3.mk ("plus" : Str) (Sm.num ("so" : Str) (0 : Int)) (Sm.num ("more" : Str) (0 : Int))).c)]) (Sm.num ("so" : Str) (0 : Int)))
def m_pieces_rule  : M ((T4 (List Sm) (List Sm) (List Sm) Sm)) :=
.ok (T4.mk ([(Sm.num ("number" : Str) (1 : Int))]) ([(Sm.two (T3.mk ("plus" : Str) (Sm.num ("more" : Str) (0 : Int)) (Sm.num ("number" : Str) (1 : Int))).a (T3.mk ("plus" : Str) (Sm.num ("more" : Str) (0 : Int)) (Sm.num ("number" : Str) (1 : Int))).b (T3.mk ("plus" : Str) (Sm.num ("more" : Str) (0 : Int)) (Sm.num ("number" : Str) (1 : Int))).c)]) ([(Sm.two (T3.mk ("times" : Str) (Sm.num ("so" : Str) (0 : Int)) (Sm.num ("more" : Str) (0 : Int))).a (T3.mk ("times" : Str) (Sm.num ("so" : Str) (0 : Int)) (Sm.num ("more" : Str) (0 : Int))).b (T3.mk ("times" : Str) (Sm.num ("so" : Str) (0 : Int)) (Sm.num ("more" : Str) (0 : Int))).c)]) (Sm.num ("so" : Str) (0 : Int)))
def m_all_rules  : M ((List (Str × (T4 (List Sm) (List Sm) (List Sm) Sm)))) :=
m_farthest_rule  >>= fun r7 =>
m_sum_rule  >>= fun r15 =>
m_apart_rule  >>= fun r23 =>
m_best_rule  >>= fun r31 =>
m_piece_rule  >>= fun r39 =>
m_pieces_rule  >>= fun r47 =>
.ok (mergeDS [(("farthest" : Str), r7), (("sum" : Str), r15), (("apart" : Str), r23), (("best" : Str), r31), (("piece" : Str), r39), (("pieces" : Str), r47)])
def m_rule_named (x_name : Str) : M ((T4 (List Sm) (List Sm) (List Sm) Sm)) :=
m_all_rules  >>= fun r1 =>
if dHas r1 x_name = true then (
opt (dGet r1 x_name) >>= fun y18 =>
.ok y18)
else (
raise "NoName")
abbrev Rule := T4 (List Sm) (List Sm) (List Sm) Sm

/-! ### ranges, cells -/
theorem rangeL_mem {lo hi x : Int} : x ∈ rangeL lo hi ↔ lo ≤ x ∧ x < hi := rangeL_mem'
theorem rangeL_nodup (lo hi : Int) : (rangeL lo hi).Nodup := by
  unfold rangeL
  rw [List.nodup_iff_pairwise_ne, List.pairwise_map]
  exact List.nodup_range.imp fun h e => h (by omega)
theorem mulx_l {i j : Int} (h : -(2 ^ 64) < i) (h2 : i < 2 ^ 64) : CMulX i j := .inl (.inl ⟨h, h2⟩)
theorem mulx_r {i j : Int} (h : -(2 ^ 64) < j) (h2 : j < 2 ^ 64) : CMulX i j := .inl (.inr ⟨h, h2⟩)
theorem cell_ok (s : List Int) (k : Int) (k0 : 0 ≤ k) : ∃ c, m_law_cell_at s k = .ok c := by
  unfold m_law_cell_at
  by_cases h : k < (s.length : Int)
  · rw [if_pos h]
    obtain ⟨x, e, _⟩ := atI_some (xs := s) (j := k) k0 h
    rw [opt_b e]
    exact ⟨x, rfl⟩
  · rw [if_neg h]
    exact ⟨0, rfl⟩
theorem rep0 (m : Int) : repL m [(0 : Int)] = List.replicate m.toNat 0 := by
  unfold repL
  induction m.toNat with
  | zero => rfl
  | succ n ih => rw [List.replicate_succ, List.flatten_cons, ih]; rfl
theorem at_in {xs : List Int} {k : Int} (k0 : 0 ≤ k) (k1 : k < (xs.length : Int)) : ∃ x, L2.atI xs k = some x ∧ x ∈ xs ∧ xs[k.toNat]? = some x := by
  obtain ⟨x, h1, h2⟩ := atI_some (xs := xs) (j := k) k0 k1
  exact ⟨x, h1, List.mem_of_getElem? h2, h2⟩
theorem range_pre {m : Int} {pre post : List Int} {y : Int} (ea : rangeL 0 m = pre ++ y :: post) : (pre.length : Int) = y ∧ 0 ≤ y ∧ y < m := by
  have h1 : (rangeL 0 m)[pre.length]? = some y := by rw [ea, List.getElem?_append_right (Nat.le_refl _), Nat.sub_self]; rfl
  have hlt := (List.getElem?_eq_some_iff.mp h1).1
  rw [rangeL_length] at hlt
  unfold rangeL at h1
  rw [List.getElem?_map, List.getElem?_range (by omega)] at h1
  have : (0 : Int) + (pre.length : Int) = y := Option.some.inj h1
  omega

/-! ### runs, what follows told of -/
theorem loopN_runB {i s b : Type} {f : i → s → M s} {all : List i} {x : s} {k : s → M b} {Q : b → Prop} (P : List i → s → Prop) (h : P [] x) (hs : ∀ pre y post x, all = pre ++ y :: post → P pre x → ∃ x', f y x = .ok x' ∧ P (pre ++ [y]) x') (hk : ∀ x', P all x' → ∃ r, k x' = .ok r ∧ Q r) : ∃ r, (loopN f all x >>= k) = .ok r ∧ Q r := by
  obtain ⟨st, e, g⟩ := loopN_run P h hs
  obtain ⟨r, e2, q⟩ := hk st g
  exact ⟨r, by rw [bind_ok e]; exact e2, q⟩
theorem compS_runB {i s b c : Type} {f : i → s → M (Option c × s)} {all : List i} {x : s} {k : List c × s → M b} {Q : b → Prop} (hl : all.length < 16777216) (P : List i → List c → s → Prop) (h : P [] [] x)
    (hs : ∀ pre y post acc x, all = pre ++ y :: post → P pre acc x → ∃ o x', f y x = .ok (o, x') ∧ P (pre ++ [y]) (match o with
      | some z => acc ++ [z]
      | none => acc) x') (hk : ∀ acc x', P all acc x' → ∃ r, k (acc, x') = .ok r ∧ Q r) : ∃ r, (compS f all x >>= k) = .ok r ∧ Q r := by
  obtain ⟨acc, st, e, g⟩ := compS_run hl P h hs
  obtain ⟨r, e2, q⟩ := hk acc st g
  exact ⟨r, by rw [bind_ok e]; exact e2, q⟩
theorem compS_pureB {i b c : Type} {f : i → Unit → M (Option c × Unit)} {all : List i} {k : List c × Unit → M b} {R : M b} (g : i → Option c) (hl : all.length < 16777216) (hs : ∀ y ∈ all, f y () = .ok (g y, ())) (hk : k (all.filterMap g, ()) = R) : (compS f all () >>= k) = R := by
  rw [bind_ok (compS_pure g hl hs)]
  exact hk
theorem compS_mapB {i b c : Type} {f : i → Unit → M (Option c × Unit)} {all : List i} {k : List c × Unit → M b} {R : M b} (g : i → c) (hl : all.length < 16777216) (hs : ∀ y ∈ all, f y () = .ok (some (g y), ())) (hk : k (all.map g, ()) = R) : (compS f all () >>= k) = R := by
  rw [bind_ok (compS_pure (fun y => some (g y)) hl hs), List.filterMap_eq_map']
  exact hk
theorem loopM_allB {i r b : Type} {f : i → Unit → M (Fl Unit r)} {all : List i} {k : Fl Unit r → M b} {R : M b} (hs : ∀ y ∈ all, f y () = .ok (.nx ())) (hk : k (.nx ()) = R) : (loopM f all () >>= k) = R := by
  rw [bind_ok (loopM_all hs)]
  exact hk
theorem loopM_hit {i r : Type} {f : i → Unit → M (Fl Unit r)} {z : r} {y : i} {post : List i} : ∀ {pre : List i}, (∀ x ∈ pre, f x () = .ok (.nx ())) → f y () = .ok (.rt z) → loopM f (pre ++ y :: post) () = .ok (.rt z)
  | [], _, h => by
    show (f y () >>= _) = _
    rw [bind_ok h]
  | x :: pre, hp, h => by
    show (f x () >>= _) = _
    rw [bind_ok (hp x List.mem_cons_self)]
    exact loopM_hit (fun w hw => hp w (List.mem_cons_of_mem _ hw)) h
theorem ok_of {b : Type} {m : M b} {v : b} (h : ∃ r, m = .ok r ∧ r = v) : m = .ok v := by
  obtain ⟨r, e, q⟩ := h
  rw [e, q]
theorem ex_imp {b : Type} {m : M b} {Q Q2 : b → Prop} (h : ∃ r, m = .ok r ∧ Q2 r) (i : ∀ r, Q2 r → Q r) : ∃ r, m = .ok r ∧ Q r := by
  obtain ⟨r, e, q⟩ := h
  exact ⟨r, e, i r q⟩

theorem rangeL_len0 (n : Nat) : (rangeL 0 (n : Int)).length = n := by rw [rangeL_length]; omega

/-! ### what stays true while a loop goes on that comes to its end -/
theorem b_inv {a b : Type} {m : M a} {k : a → M b} {y : b} (h : (m >>= k) = .ok y) : ∃ x, m = .ok x ∧ k x = .ok y := by
  cases m with
  | ok x => exact ⟨x, rfl, h⟩
  | error e => exact nomatch h
theorem o_inv {a b : Type} {o : Option a} {k : a → M b} {y : b} (h : (opt o >>= k) = .ok y) : ∃ x, o = some x ∧ k x = .ok y := by
  obtain ⟨x, h1, h2⟩ := b_inv h
  cases o with
  | some z => exact ⟨z, rfl, by cases h1; exact h2⟩
  | none => exact nomatch h1
theorem c_inv {b : Type} {c : Prop} [Decidable c] {k : Unit → M b} {y : b} (h : (chk c >>= k) = .ok y) : c ∧ k () = .ok y := by
  by_cases z : c
  · rw [chk_b z] at h; exact ⟨z, h⟩
  · unfold chk at h
    rw [if_neg z] at h
    exact nomatch h
theorem a_inv {a b : Type} {xs : List a} {y : a} {k : List a → M b} {z : b} (h : (appL xs y >>= k) = .ok z) : k (xs ++ [y]) = .ok z := by
  unfold appL at h
  by_cases c : xs.length < 16777216
  · rw [if_pos c] at h; exact h
  · rw [if_neg c] at h; exact nomatch h
theorem loopN_keep {i s : Type} {f : i → s → M s} (P : s → Prop) : ∀ {xs : List i} {x x' : s}, (∀ y ∈ xs, ∀ x x', P x → f y x = .ok x' → P x') → P x → loopN f xs x = .ok x' → P x'
  | [], x, x', _, h, e => by cases e; exact h
  | y :: ys, x, x', hs, h, e => by
    have e : (f y x >>= fun x1 => loopN f ys x1) = .ok x' := e
    obtain ⟨x1, e1, e2⟩ := b_inv e
    exact loopN_keep P (fun z hz => hs z (List.mem_cons_of_mem _ hz)) (hs y List.mem_cons_self x x1 h e1) e2
theorem whL_keep {s r : Type} {b : s → M (Ws s r)} (P Q : s → Prop) (hg : ∀ x x', P x → b x = .ok (.go x') → P x') (hs : ∀ x x', P x → b x = .ok (.stop x') → Q x') : ∀ (n : Nat) (x x' : s), P x → whL b n x = .ok (.nx x') → Q x'
  | 0, _, _, _, e => nomatch e
  | n + 1, x, x', h, e => by
    have e : (b x >>= fun w => match w with
      | .go x' => whL b n x'
      | .stop x' => .ok (.nx x')
      | .rt z => .ok (.rt z)) = .ok (.nx x') := e
    obtain ⟨w, e1, e2⟩ := b_inv e
    cases w with
    | go x1 => exact whL_keep P Q hg hs n x1 x' (hg x x1 h e1) e2
    | stop x1 =>
      have e2 : Except.ok (Fl.nx x1 : Fl s r) = (Except.ok (.nx x') : M (Fl s r)) := e2
      injection e2 with e2
      injection e2 with e2
      rw [← e2]
      exact hs x x1 h e1
    | rt z => exact nomatch e2

theorem dPut_new {κ β : Type} [DecidableEq κ] {xs : List (κ × β)} {k : κ} {y : β} (h : ∀ p ∈ xs, p.1 ≠ k) : dPut xs k y = xs ++ [(k, y)] := by
  unfold dPut
  rw [if_neg]
  intro z
  obtain ⟨p, hp, e⟩ := List.any_eq_true.mp z
  exact h p hp (of_decide_eq_true e)

def lenOf (ts : List Tie) : List ((Int × Int) × Int) := ts.flatMap fun t => [((t.a, t.b), t.c), ((t.b, t.a), t.c)]
theorem lenOf_mem {ts : List Tie} {p : (Int × Int) × Int} : p ∈ lenOf ts ↔ ∃ t ∈ ts, p = ((t.a, t.b), t.c) ∨ p = ((t.b, t.a), t.c) := by
  unfold lenOf
  simp [List.mem_flatMap]
theorem lenOf_len : ∀ ts : List Tie, (lenOf ts).length = 2 * ts.length
  | [] => rfl
  | t :: ts => by
    show (lenOf ts).length + 1 + 1 = 2 * (ts.length + 1)
    rw [lenOf_len ts]
    omega
theorem grown_pairs {ps : List Int} {ts : List Tie} (g : Grown ps ts) : (ts.map fun x => (x.a, x.b)).Nodup := by
  induction g with
  | one p => exact List.nodup_nil
  | @more ps ts q p c g hq hp ih =>
    rw [List.map_append, List.nodup_append]
    refine ⟨ih, by simp, fun x hx y hy e => ?_⟩
    obtain ⟨t, ht, rfl⟩ := List.mem_map.mp hx
    rw [List.map_singleton, List.mem_singleton] at hy
    have hpq : p ≠ q := fun z => hp (z ▸ hq)
    obtain ⟨h1, h2, _⟩ := tieOf_lt (c := c) hpq
    obtain ⟨i1, i2, _⟩ := g.in t ht
    rw [hy] at e
    injection e with e1 e2
    rcases h2 with ⟨a, b⟩ | ⟨a, b⟩
    · rw [e1, a] at i1; exact hp i1
    · rw [e2, b] at i2; exact hp i2
theorem tree_pairs {t : Tr} (h : TreeOk t) : (t.2.map fun x => (x.a, x.b)).Nodup := by
  obtain ⟨o, ts, g, _, e⟩ := h.ex
  rw [e]
  exact ((sortT_perm ts).map _).nodup_iff.mpr (grown_pairs g)
theorem lengths_ok (t : Tr) (ht : TreeOk t) (hn : t.1.length ≤ 1000000) : m_lengths_of t = .ok (lenOf t.2) := by
  have hlen := ht.len
  have nd := tree_pairs ht
  obtain ⟨st, e1, e2⟩ := loopN_run (f := fun (y19 : (T3 Int Int Int)) (st30 : (List ((Int × Int) × Int))) =>
    putD st30 ((y19.a, y19.b).1, (y19.a, y19.b).2) y19.c >>= fun z64 =>
    putD z64 ((y19.b, y19.a).1, (y19.b, y19.a).2) y19.c >>= fun z82 =>
    (.ok z82 : M _)) (all := t.2) (x := []) (fun pre st => st = lenOf pre) rfl fun pre y post st ea es => by
      subst es
      have hm : ∀ x ∈ pre, x ∈ t.2 := fun x hx => by rw [ea]; exact List.mem_append_left _ hx
      have hy := ht.tie y (by rw [ea]; simp)
      have hlp : (lenOf pre).length = 2 * pre.length := lenOf_len pre
      have hpl : pre.length + 1 ≤ t.2.length := by
        rw [ea, List.length_append, List.length_cons]
        omega
      have n1 : ∀ x ∈ pre, ¬ (x.a = y.a ∧ x.b = y.b) := fun x hx ⟨z1, z2⟩ => by
        rw [ea, List.map_append, List.map_cons, List.nodup_append] at nd
        exact nd.2.2 (x.a, x.b) (List.mem_map.mpr ⟨x, hx, rfl⟩) (y.a, y.b) List.mem_cons_self (by rw [z1, z2])
      have k1 : ∀ p ∈ lenOf pre, p.1 ≠ (y.a, y.b) := fun p hp e => by
        obtain ⟨x, hx, h | h⟩ := lenOf_mem.mp hp
        · rw [h] at e; injection e with z1 z2; exact n1 x hx ⟨z1, z2⟩
        · rw [h] at e
          injection e with z1 z2
          have := ht.tie x (hm x hx)
          have z1 : x.b = y.a := z1
          have z2 : x.a = y.b := z2
          omega
      have k2 : ∀ p ∈ lenOf pre ++ [((y.a, y.b), y.c)], p.1 ≠ (y.b, y.a) := fun p hp e => by
        rcases List.mem_append.mp hp with hp | hp
        · obtain ⟨x, hx, h | h⟩ := lenOf_mem.mp hp
          · rw [h] at e
            injection e with z1 z2
            have := ht.tie x (hm x hx)
            have z1 : x.a = y.b := z1
            have z2 : x.b = y.a := z2
            omega
          · rw [h] at e; injection e with z1 z2; exact n1 x hx ⟨z2, z1⟩
        · rw [List.mem_singleton.mp hp] at e
          injection e with z1 z2
          have z1 : y.a = y.b := z1
          omega
      refine ⟨_, ?_, rfl⟩
      show (putD (lenOf pre) (y.a, y.b) y.c >>= fun z64 => putD z64 (y.b, y.a) y.c >>= fun z82 => _) = _
      rw [bind_ok (show putD (lenOf pre) (y.a, y.b) y.c = .ok (lenOf pre ++ [((y.a, y.b), y.c)]) by unfold putD; rw [if_pos (by omega), dPut_new k1])]
      rw [bind_ok (show putD (lenOf pre ++ [((y.a, y.b), y.c)]) (y.b, y.a) y.c = .ok ((lenOf pre ++ [((y.a, y.b), y.c)]) ++ [((y.b, y.a), y.c)]) by unfold putD; rw [if_pos (by rw [List.length_append, List.length_singleton]; omega), dPut_new k2])]
      unfold lenOf
      rw [List.flatMap_append, List.append_assoc]
      rfl
  unfold m_lengths_of
  rw [bind_ok e1, e2]
theorem keys_perm : ∀ ts : List Tie, ((lenOf ts).map (·.1)).Perm (ts.map (fun t => (t.a, t.b)) ++ ts.map (fun t => (t.b, t.a)))
  | [] => .nil
  | t :: ts => by
    show ((t.a, t.b) :: (t.b, t.a) :: (lenOf ts).map (·.1)).Perm ((t.a, t.b) :: (ts.map (fun t => (t.a, t.b)) ++ (t.b, t.a) :: ts.map (fun t => (t.b, t.a))))
    refine .cons _ (((keys_perm ts).cons _).trans List.perm_middle.symm)

/-! ### neighbours -/
def other (p : Int) (t : Tie) : Option Int := if t.a = p then some t.b else if t.b = p then some t.a else none
/-- the neighbours of a place, rising -/
def nearOf (ties : List Tie) (p : Int) : List Int := sortT (ties.filterMap (other p))
def nearAll (n : Nat) (ties : List Tie) : List (List Int) := (List.range n).map fun (i : Nat) => nearOf ties (i : Int)
theorem addAt_ok {fs : List (List Int)} {x y : Int} {l : List Int} (h0 : 0 ≤ x) (h : fs[x.toNat]? = some l) (hl : l.length < 16777216) : addAt fs x y = .ok (fs.set x.toNat (l ++ [y])) := by
  have h1 := (List.getElem?_eq_some_iff.mp h).1
  unfold addAt
  rw [ixN_nat h0 (by omega)]
  show (match fs[x.toNat]? with
    | some x_1 => appL x_1 y >>= fun y => .ok (fs.set x.toNat y)
    | none => bad) = _
  rw [h]
  show (appL l y >>= fun y => (.ok (fs.set x.toNat y) : M _)) = _
  rw [bind_ok (appL_ok hl)]
theorem tied_places_ok (n : Int) (ties : List Tie) (h0 : 0 ≤ n) (h1 : n ≤ 1000000) (hl : ties.length < 16777216) (hv : ∀ t ∈ ties, 0 ≤ t.a ∧ t.a < t.b ∧ t.b < n) : m_tied_places n ties = .ok (nearAll n.toNat ties) := by
  unfold m_tied_places
  rw [chk_b (show okR n from ⟨by omega, h1⟩)]
  obtain ⟨fs, e, h⟩ := loopN_run (f := fun (t : T3 Int Int Int) (fs : List (List Int)) => addAt fs t.a t.b >>= fun f1 => addAt f1 t.b t.a) (all := sortT ties) (x := List.replicate n.toNat [])
    (fun pre fs => fs = (List.range n.toNat).map fun (i : Nat) => pre.filterMap (other (i : Int))) (by
      refine List.ext_getElem? fun i => ?_
      rw [List.getElem?_replicate, List.getElem?_map]
      by_cases hi : i < n.toNat
      · rw [if_pos hi, List.getElem?_range hi]; rfl
      · rw [if_neg hi, List.getElem?_eq_none (by simpa using hi)]; rfl) fun pre t post fs ea hf => by
      subst hf
      have mt : t ∈ ties := sortT_mem.mp (by rw [ea]; simp)
      obtain ⟨a0, ab, bn⟩ := hv t mt
      have plen : pre.length < 16777216 := by
        have := congrArg List.length ea
        rw [sortT_len, List.length_append, List.length_cons] at this
        omega
      have g1 : ((List.range n.toNat).map fun (i : Nat) => pre.filterMap (other (i : Int)))[t.a.toNat]? = some (pre.filterMap (other t.a)) := by
        rw [List.getElem?_map, List.getElem?_range (by omega)]
        show some (pre.filterMap (other ((t.a.toNat : Nat) : Int))) = _
        rw [Int.toNat_of_nonneg a0]
      have l1 : (pre.filterMap (other t.a)).length < 16777216 := Nat.lt_of_le_of_lt (List.length_filterMap_le _ _) plen
      have g2 : (((List.range n.toNat).map fun (i : Nat) => pre.filterMap (other (i : Int))).set t.a.toNat (pre.filterMap (other t.a) ++ [t.b]))[t.b.toNat]? = some (pre.filterMap (other t.b)) := by
        rw [List.getElem?_set_ne (by omega), List.getElem?_map, List.getElem?_range (by omega)]
        show some (pre.filterMap (other ((t.b.toNat : Nat) : Int))) = _
        rw [Int.toNat_of_nonneg (by omega)]
      have l2 : (pre.filterMap (other t.b)).length < 16777216 := Nat.lt_of_le_of_lt (List.length_filterMap_le _ _) plen
      refine ⟨_, by rw [bind_ok (addAt_ok a0 g1 l1)]; exact addAt_ok (by omega) g2 l2, ?_⟩
      refine List.ext_getElem? fun i => ?_
      rw [List.getElem?_map]
      by_cases hi : i < n.toNat
      · rw [List.getElem?_range hi]
        show _ = some ((pre ++ [t]).filterMap (other (i : Int)))
        rw [List.filterMap_append]
        by_cases hb : t.b.toNat = i
        · subst hb
          rw [List.getElem?_set_self (by simpa using hi)]
          have e1 : other ((t.b.toNat : Nat) : Int) t = some t.a := by
            unfold other
            rw [if_neg (by omega), if_pos (by omega)]
          have e2 : ((t.b.toNat : Nat) : Int) = t.b := Int.toNat_of_nonneg (by omega)
          rw [List.filterMap_cons, e1, List.filterMap_nil, e2]
        · rw [List.getElem?_set_ne hb]
          by_cases ha : t.a.toNat = i
          · subst ha
            rw [List.getElem?_set_self (by simpa using hi)]
            have e1 : other ((t.a.toNat : Nat) : Int) t = some t.b := by
              unfold other
              rw [if_pos (by omega)]
            have e2 : ((t.a.toNat : Nat) : Int) = t.a := Int.toNat_of_nonneg a0
            rw [List.filterMap_cons, e1, List.filterMap_nil, e2]
          · rw [List.getElem?_set_ne ha, List.getElem?_map, List.getElem?_range hi]
            have e1 : other (i : Int) t = none := by
              unfold other
              rw [if_neg (by omega), if_neg (by omega)]
            rw [List.filterMap_cons, e1, List.filterMap_nil, List.append_nil]
            rfl
      · have z : (List.range n.toNat)[i]? = none := List.getElem?_eq_none (by simpa using hi)
        rw [z]
        show _ = none
        refine List.getElem?_eq_none ?_
        rw [List.length_set, List.length_set, List.length_map, List.length_range]
        omega
  rw [bind_ok e, h]
  refine congrArg Except.ok ?_
  unfold nearAll
  rw [List.map_map]
  refine List.map_congr_left fun i _ => ?_
  show sortT ((sortT ties).filterMap (other (i : Int))) = nearOf ties (i : Int)
  exact sortT_eq ((sortT_perm ties).filterMap _)
theorem nearAll_at {n : Nat} {ties : List Tie} {p : Int} (h0 : 0 ≤ p) (h : p < n) : L2.atI (nearAll n ties) p = some (nearOf ties p) := by
  refine atI_of h0 ?_
  unfold nearAll
  rw [List.getElem?_map, List.getElem?_range (by omega)]
  show some (nearOf ties ((p.toNat : Nat) : Int)) = _
  rw [Int.toNat_of_nonneg h0]

theorem need_place_ok (t : Tr) (p : Int) (h0 : 0 ≤ p) (h : p < (t.1.length : Int)) : m_need_place t p = .ok () := by
  unfold m_need_place
  rw [if_pos h0, if_pos h]
theorem tied_to_ok (t : Tr) (ht : TreeOk t) (hn : t.1.length ≤ 1000000) (p : Int) (h0 : 0 ≤ p) (h : p < (t.1.length : Int)) : m_tied_to t p = .ok (nearOf t.2 p) := by
  unfold m_tied_to
  have := ht.len
  rw [bind_ok (need_place_ok t p h0 h), bind_ok (tied_places_ok (t.1.length : Int) t.2 (by omega) (by omega) (by omega) ht.tie), opt_b (nearAll_at h0 (by omega))]
theorem nearOf_len (ts : List Tie) (p : Int) : (nearOf ts p).length ≤ ts.length := by
  unfold nearOf
  rw [sortT_len]
  exact List.length_filterMap_le _ _

theorem whL_run {s r : Type} {b : s → M (Ws s r)} (P : s → Prop) (μ : s → Nat) (Qf : s → Prop) (step : ∀ x, P x → (∃ x', b x = .ok (.go x') ∧ P x' ∧ μ x' < μ x) ∨ (∃ x', b x = .ok (.stop x') ∧ Qf x')) : ∀ (n : Nat) (x : s), P x → μ x < n → ∃ x', whL b n x = .ok (.nx x') ∧ Qf x'
  | 0, x, _, h => absurd h (Nat.not_lt_zero _)
  | n + 1, x, p, h => by
    rcases step x p with ⟨x', e, p', l⟩ | ⟨x', e, q⟩
    · obtain ⟨x2, e2, q2⟩ := whL_run P μ Qf step n x' p' (by omega)
      refine ⟨x2, ?_, q2⟩
      show (b x >>= _) = _
      rw [bind_ok e]
      exact e2
    · refine ⟨x', ?_, q⟩
      show (b x >>= _) = _
      rw [bind_ok e]
theorem nd_sub_len {a : Type} [DecidableEq a] : ∀ {l m : List a}, l.Nodup → (∀ x ∈ l, x ∈ m) → l.length ≤ m.length
  | [], _, _, _ => Nat.zero_le _
  | x :: l, m, nd, h => by
    have hx := h x List.mem_cons_self
    obtain ⟨n1, n2⟩ := List.nodup_cons.mp nd
    have := nd_sub_len (l := l) (m := m.erase x) n2 fun y hy => (List.mem_erase_of_ne fun e => n1 (by rw [← e]; exact hy)).mpr (h y (List.mem_cons_of_mem _ hy))
    rw [List.length_erase_of_mem hx] at this
    have hp := List.length_pos_of_mem hx
    rw [List.length_cons]
    omega
theorem nearOf_mem {ts : List Tie} {x y : Int} (h : ∀ t ∈ ts, t.a < t.b) : y ∈ nearOf ts x ↔ ∃ t ∈ ts, (t.a = x ∧ t.b = y) ∨ (t.b = x ∧ t.a = y) := by
  unfold nearOf
  rw [sortT_mem, List.mem_filterMap]
  constructor
  · rintro ⟨t, ht, e⟩
    unfold other at e
    by_cases ha : t.a = x
    · rw [if_pos ha] at e
      exact ⟨t, ht, .inl ⟨ha, Option.some.inj e⟩⟩
    · rw [if_neg ha] at e
      by_cases hb : t.b = x
      · rw [if_pos hb] at e
        exact ⟨t, ht, .inr ⟨hb, Option.some.inj e⟩⟩
      · rw [if_neg hb] at e; cases e
  · rintro ⟨t, ht, ⟨ha, hb⟩ | ⟨hb, ha⟩⟩
    · refine ⟨t, ht, ?_⟩
      unfold other
      rw [if_pos ha, hb]
    · refine ⟨t, ht, ?_⟩
      have := h t ht
      unfold other
      rw [if_neg (by omega), if_pos hb, ha]
/-- what holds of one place and goes over ties holds of all -/
theorem grown_all {ps : List Int} {ts : List Tie} (g : Grown ps ts) (S : Int → Prop) (hS : ∀ t ∈ ts, S t.a ↔ S t.b) : (∃ x ∈ ps, S x) → ∀ x ∈ ps, S x := by
  induction g with
  | one p =>
    rintro ⟨x, hx, h⟩ y hy
    rw [List.mem_singleton.mp hx] at h
    rw [List.mem_singleton.mp hy]
    exact h
  | @more ps ts q p c g hq hp ih =>
    have ih := ih fun t ht => hS t (List.mem_append_left _ ht)
    have hpq : p ≠ q := fun z => hp (z ▸ hq)
    have hl := hS (tieOf p q c) (by simp)
    obtain ⟨_, h2, _⟩ := tieOf_lt (c := c) hpq
    have hpq2 : S p ↔ S q := by
      rcases h2 with ⟨a, b⟩ | ⟨a, b⟩
      · rw [a, b] at hl; exact hl
      · rw [a, b] at hl; exact hl.symm
    rintro ⟨x, hx, h⟩
    have hall : ∀ y ∈ ps, S y := by
      rcases List.mem_append.mp hx with hx | hx
      · exact ih ⟨x, hx, h⟩
      · rw [List.mem_singleton.mp hx] at h
        exact ih ⟨q, hq, hpq2.mp h⟩
    intro y hy
    rcases List.mem_append.mp hy with hy | hy
    · exact hall y hy
    · rw [List.mem_singleton.mp hy]
      exact hpq2.mpr (hall q hq)
theorem tree_all {t : Tr} (ht : TreeOk t) (S : Int → Prop) (hS : ∀ x ∈ t.2, S x.a ↔ S x.b) (x : Int) (x0 : 0 ≤ x) (x1 : x < (t.1.length : Int)) (h : S x) : ∀ y, 0 ≤ y → y < (t.1.length : Int) → S y := by
  obtain ⟨ps, ts, g, p, e⟩ := ht.ex
  rw [e] at hS
  intro y y0 y1
  exact grown_all g S (fun t ht => hS t (sortT_mem.mpr ht)) ⟨x, p.mem_iff.mpr (rangeL_mem.mpr ⟨x0, x1⟩), h⟩ y (p.mem_iff.mpr (rangeL_mem.mpr ⟨y0, y1⟩))
theorem nearAll_len (n : Nat) (ts : List Tie) : (nearAll n ts).length = n := by unfold nearAll; simp

/-! ### which places lie in a branch: m a b x is 1 where x hangs at b seen from a -/
def nbr (ts : List Tie) (b : Int) : List Int := ts.filterMap (other b)
theorem other_tie {p q c b : Int} (h : p ≠ q) : other b (tieOf p q c) = if b = p then some q else if b = q then some p else none := by
  unfold other tieOf
  by_cases hl : p ≤ q
  · rw [if_pos hl]
    show (if p = b then some q else if q = b then some p else none) = _
    by_cases h1 : b = p
    · rw [if_pos h1.symm, if_pos h1]
    · rw [if_neg (fun z => h1 z.symm), if_neg h1]
      by_cases h2 : b = q
      · rw [if_pos h2.symm, if_pos h2]
      · rw [if_neg (fun z => h2 z.symm), if_neg h2]
  · rw [if_neg hl]
    show (if q = b then some p else if p = b then some q else none) = _
    by_cases h1 : b = p
    · rw [if_neg (by omega), if_pos h1.symm, if_pos h1]
    · rw [if_neg h1]
      by_cases h2 : b = q
      · rw [if_pos h2.symm, if_pos h2]
      · rw [if_neg (fun z => h2 z.symm), if_neg (fun z => h1 z.symm), if_neg h2]
theorem nbr_snoc (ts : List Tie) {p q c b : Int} (h : p ≠ q) : nbr (ts ++ [tieOf p q c]) b = nbr ts b ++ (if b = p then [q] else if b = q then [p] else []) := by
  unfold nbr
  rw [List.filterMap_append, List.filterMap_cons, other_tie h, List.filterMap_nil]
  by_cases h1 : b = p
  · rw [if_pos h1, if_pos h1]
  · rw [if_neg h1, if_neg h1]
    by_cases h2 : b = q
    · rw [if_pos h2, if_pos h2]
    · rw [if_neg h2, if_neg h2]
theorem nbr_in {ps : List Int} {ts : List Tie} (g : Grown ps ts) {a b : Int} (h : a ∈ nbr ts b) : a ∈ ps ∧ b ∈ ps ∧ a ≠ b := by
  unfold nbr at h
  obtain ⟨t, ht, e⟩ := List.mem_filterMap.mp h
  obtain ⟨h1, h2, h3⟩ := g.in t ht
  unfold other at e
  by_cases ha : t.a = b
  · rw [if_pos ha] at e
    have e := Option.some.inj e
    rw [← e, ← ha]
    exact ⟨h2, h1, by omega⟩
  · rw [if_neg ha] at e
    by_cases hb : t.b = b
    · rw [if_pos hb] at e
      have e := Option.some.inj e
      rw [← e, ← hb]
      exact ⟨h1, h2, by omega⟩
    · rw [if_neg hb] at e; cases e
def sumF (l : List Int) (f : Int → Nat) : Nat := (l.map f).sum
theorem sumF_app (l m : List Int) (f : Int → Nat) : sumF (l ++ m) f = sumF l f + sumF m f := by unfold sumF; rw [List.map_append, List.sum_append]
theorem sumF_congr {l : List Int} {f g : Int → Nat} (h : ∀ x ∈ l, f x = g x) : sumF l f = sumF l g := by unfold sumF; rw [List.map_congr_left h]
theorem sumF_one (x : Int) (f : Int → Nat) : sumF [x] f = f x := by unfold sumF; simp
theorem sumF_nil (f : Int → Nat) : sumF [] f = 0 := rfl
def ind (x y : Int) : Nat := if x = y then 1 else 0
structure Wt (ps : List Int) (ts : List Tie) (m : Int → Int → Int → Nat) : Prop where
  one : ∀ a b x, a ∈ nbr ts b → x ∈ ps → m a b x = ind x b + sumF ((nbr ts b).filter fun c => decide (c ≠ a)) (fun c => m b c x)
  all : ∀ q x, q ∈ ps → x ∈ ps → ind x q + sumF (nbr ts q) (fun c => m q c x) = 1
def stepM (m : Int → Int → Int → Nat) (p q : Int) (a b x : Int) : Nat :=
  if a = q ∧ b = p then (if x = p then 1 else 0) else if a = p ∧ b = q then (if x = p then 0 else 1) else if x = p then m a b q else m a b x
theorem stepM_old {m : Int → Int → Int → Nat} {p q a b x : Int} (h1 : ¬ (a = q ∧ b = p)) (h2 : ¬ (a = p ∧ b = q)) : stepM m p q a b x = m a b (if x = p then q else x) := by
  unfold stepM
  rw [if_neg h1, if_neg h2]
  split <;> rfl
theorem weights {ps : List Int} {ts : List Tie} (g : Grown ps ts) : ∃ m, Wt ps ts m := by
  induction g with
  | one p =>
    refine ⟨fun _ _ _ => 0, ⟨fun a b x h => (nomatch (show a ∈ ([] : List Int) from h)), fun q x hq hx => ?_⟩⟩
    rw [List.mem_singleton.mp hq, List.mem_singleton.mp hx]
    show ind p p + 0 = 1
    unfold ind
    rw [if_pos rfl]
  | @more ps ts q p c g hq hp ih =>
    obtain ⟨m, M⟩ := ih
    have hpq : p ≠ q := fun z => hp (z ▸ hq)
    have nin : ∀ {a b}, a ∈ nbr ts b → a ≠ p ∧ b ≠ p := fun {a b} h => by
      obtain ⟨h1, h2, _⟩ := nbr_in g h
      exact ⟨fun z => hp (z ▸ h1), fun z => hp (z ▸ h2)⟩
    have np : nbr ts p = [] := List.eq_nil_iff_forall_not_mem.mpr fun a h => (nin h).2 rfl
    -- where x stands: the new place stands where its neighbour stands
    have back : ∀ x, x ∈ ps ++ [p] → (if x = p then q else x) ∈ ps := fun x hx => by
      by_cases hxp : x = p
      · rw [if_pos hxp]; exact hq
      · rw [if_neg hxp]
        rcases List.mem_append.mp hx with z | z
        · exact z
        · exact (hxp (List.mem_singleton.mp z)).elim
    have oldS : ∀ (l : List Int) (b x : Int), b ≠ p → (∀ c ∈ l, c ≠ p) → sumF l (fun c => stepM m p q b c x) = sumF l (fun c => m b c (if x = p then q else x)) := fun l b x hb hl =>
      sumF_congr fun c hc => stepM_old (fun z => hl c hc z.2) (fun z => hb z.1)
    have indx : ∀ x b : Int, b ≠ p → b ≠ q → ind x b = ind (if x = p then q else x) b := fun x b hb hbq => by
      by_cases hxp : x = p
      · rw [if_pos hxp, hxp]
        unfold ind
        rw [if_neg (fun z => hb z.symm), if_neg (fun z => hbq z.symm)]
      · rw [if_neg hxp]
    have memf : ∀ (l : List Int) (a : Int), (∀ c ∈ l, c ≠ p) → ∀ c ∈ l.filter (fun c => decide (c ≠ a)), c ≠ p := fun l a hl c hc => hl c (List.mem_filter.mp hc).1
    have lp : ∀ b, ∀ c ∈ nbr ts b, c ≠ p := fun b c hc => (nin hc).1
    refine ⟨stepM m p q, ⟨fun a b x ha hx => ?_, fun q0 x hq0 hx => ?_⟩⟩
    · rw [nbr_snoc ts hpq] at ha ⊢
      have hb' := back x hx
      by_cases hbp : b = p
      · subst hbp
        rw [np, if_pos rfl] at ha ⊢
        have ha : a = q := List.mem_singleton.mp ha
        subst ha
        have : ([a].filter fun c => decide (c ≠ a)) = [] := by simp
        show stepM m b a a b x = ind x b + sumF (([] ++ [a]).filter fun c => decide (c ≠ a)) _
        rw [List.nil_append, this, sumF_nil]
        unfold stepM ind
        rw [if_pos ⟨rfl, rfl⟩]
        rfl
      · rw [if_neg hbp] at ha ⊢
        by_cases hbq : b = q
        · subst hbq
          rw [if_pos rfl] at ha ⊢
          rw [List.filter_append, sumF_app]
          by_cases hap : a = p
          · subst hap
            have f1 : ((nbr ts b).filter fun c => decide (c ≠ a)) = nbr ts b := List.filter_eq_self.mpr fun c hc => decide_eq_true (lp b c hc)
            have f2 : ([a].filter fun c => decide (c ≠ a)) = [] := by simp
            rw [f1, f2, sumF_nil, oldS _ _ _ hbp (lp b)]
            have al := M.all b _ hq hb'
            unfold stepM
            rw [if_neg (fun z => hbp z.2), if_pos ⟨rfl, rfl⟩]
            by_cases hxp : x = a
            · rw [if_pos hxp] at al ⊢
              rw [if_pos hxp]
              have i1 : ind b b = 1 := if_pos rfl
              have i2 : ind x b = 0 := if_neg (fun z => hbp (by rw [← z, hxp]))
              rw [i1] at al
              rw [i2]
              omega
            · rw [if_neg hxp] at al ⊢
              rw [if_neg hxp]
              omega
          · have ha' : a ∈ nbr ts b := by
              rcases List.mem_append.mp ha with z | z
              · exact z
              · exact (hap (List.mem_singleton.mp z)).elim
            have f2 : ([p].filter fun c => decide (c ≠ a)) = [p] := List.filter_eq_self.mpr fun c hc => by rw [List.mem_singleton.mp hc]; exact decide_eq_true (fun z => hap z.symm)
            rw [f2, sumF_one, oldS _ _ _ hbp (memf _ _ (lp b)), stepM_old (fun z => hbp z.2) (fun z => hap z.1)]
            have on := M.one a b _ ha' hb'
            have sp : stepM m p b b p x = if x = p then 1 else 0 := if_pos ⟨rfl, rfl⟩
            rw [sp, on]
            by_cases hxp : x = p
            · rw [if_pos hxp, if_pos hxp]
              have i1 : ind b b = 1 := if_pos rfl
              have i2 : ind x b = 0 := if_neg (fun z => hbp (by rw [← z, hxp]))
              rw [i1, i2]
              omega
            · rw [if_neg hxp, if_neg hxp]
              omega
        · rw [if_neg hbq, List.append_nil] at ha ⊢
          have hap := (nin ha).1
          rw [oldS _ _ _ hbp (memf _ _ (lp b)), stepM_old (fun z => hbp z.2) (fun z => hap z.1), indx x b hbp hbq]
          exact M.one a b _ ha hb'
    · rw [nbr_snoc ts hpq]
      have hb' := back x hx
      by_cases hbp : q0 = p
      · subst hbp
        rw [np, if_pos rfl, List.nil_append, sumF_one]
        have sp : stepM m q0 q q0 q x = if x = q0 then 0 else 1 := by
          unfold stepM
          rw [if_neg (fun z => hpq z.1), if_pos ⟨rfl, rfl⟩]
        rw [sp]
        unfold ind
        split <;> rfl
      · rw [if_neg hbp]
        have hq0' : q0 ∈ ps := by
          rcases List.mem_append.mp hq0 with z | z
          · exact z
          · exact (hbp (List.mem_singleton.mp z)).elim
        have al := M.all q0 _ hq0' hb'
        rw [sumF_app, oldS _ _ _ hbp (lp q0)]
        by_cases hbq : q0 = q
        · subst hbq
          rw [if_pos rfl, sumF_one]
          have sp : stepM m p q0 q0 p x = if x = p then 1 else 0 := if_pos ⟨rfl, rfl⟩
          rw [sp]
          by_cases hxp : x = p
          · rw [if_pos hxp] at al ⊢
            rw [if_pos hxp]
            have i1 : ind q0 q0 = 1 := if_pos rfl
            have i2 : ind x q0 = 0 := if_neg (fun z => hbp (by rw [← z, hxp]))
            rw [i1] at al
            rw [i2]
            omega
          · rw [if_neg hxp] at al ⊢
            rw [if_neg hxp]
            omega
        · rw [if_neg hbq, sumF_nil, indx x q0 hbp hbq]
          omega

theorem sumF_add (l : List Int) (f g : Int → Nat) : sumF l (fun x => f x + g x) = sumF l f + sumF l g := by
  induction l with
  | nil => rfl
  | cons x l ih =>
    show (f x + g x) + sumF l _ = (f x + sumF l f) + (g x + sumF l g)
    rw [ih]
    omega
theorem sumF_zero (l : List Int) : sumF l (fun _ => 0) = 0 := by
  induction l with
  | nil => rfl
  | cons x l ih => show 0 + sumF l _ = 0; rw [ih]
theorem sumF_swap (l k : List Int) (f : Int → Int → Nat) : sumF l (fun x => sumF k (fun c => f c x)) = sumF k (fun c => sumF l (fun x => f c x)) := by
  induction k with
  | nil => exact sumF_zero l
  | cons c k ih =>
    show sumF l (fun x => f c x + sumF k (fun c => f c x)) = sumF l (fun x => f c x) + sumF k (fun c => sumF l (fun x => f c x))
    rw [sumF_add, ih]
theorem sumF_ind {l : List Int} (nd : l.Nodup) {b : Int} (h : b ∈ l) : sumF l (fun x => ind x b) = 1 := by
  induction l with
  | nil => cases h
  | cons x l ih =>
    obtain ⟨n1, n2⟩ := List.nodup_cons.mp nd
    show ind x b + sumF l (fun x => ind x b) = 1
    by_cases e : x = b
    · have : sumF l (fun x => ind x b) = sumF l (fun _ => 0) := sumF_congr fun y hy => if_neg (fun z => n1 (by rw [e, ← z]; exact hy))
      rw [this, sumF_zero]
      unfold ind
      rw [if_pos e]
    · have hb : b ∈ l := by
        rcases List.mem_cons.mp h with z | z
        · exact (e z.symm).elim
        · exact z
      rw [ih n2 hb]
      unfold ind
      rw [if_neg e]
theorem sumF_le {l : List Int} {f : Int → Nat} (h : ∀ x ∈ l, f x ≤ 1) : sumF l f ≤ l.length := by
  induction l with
  | nil => exact Nat.le_refl _
  | cons x l ih =>
    show f x + sumF l f ≤ l.length + 1
    have := h x List.mem_cons_self
    have := ih fun y hy => h y (List.mem_cons_of_mem _ hy)
    omega
theorem sumF_mem {l : List Int} {f : Int → Nat} {x : Int} (h : x ∈ l) : f x ≤ sumF l f := by
  induction l with
  | nil => cases h
  | cons y l ih =>
    show f x ≤ f y + sumF l f
    rcases List.mem_cons.mp h with z | z
    · rw [z]; omega
    · have := ih z
      omega
theorem sumF_perm {l k : List Int} (h : l.Perm k) (f : Int → Nat) : sumF l f = sumF k f := by
  unfold sumF
  exact (h.map f).sum_nat
theorem nbr_sym {ts : List Tie} {a b : Int} (hv : ∀ t ∈ ts, t.a < t.b) (h : a ∈ nbr ts b) : b ∈ nbr ts a := by
  unfold nbr at h ⊢
  obtain ⟨t, ht, e⟩ := List.mem_filterMap.mp h
  refine List.mem_filterMap.mpr ⟨t, ht, ?_⟩
  have := hv t ht
  unfold other at e ⊢
  by_cases ha : t.a = b
  · rw [if_pos ha] at e
    have e := Option.some.inj e
    rw [if_neg (by omega), if_pos e, ha]
  · rw [if_neg ha] at e
    by_cases hb : t.b = b
    · rw [if_pos hb] at e
      have e := Option.some.inj e
      rw [if_pos e, hb]
    · rw [if_neg hb] at e; cases e
/-- how many places hang at b seen from a -/
theorem weight_tree {t : Tr} (ht : TreeOk t) : ∃ w : Int → Int → Nat, ∀ a b, a ∈ nearOf t.2 b → w a b = 1 + sumF ((nearOf t.2 b).filter fun c => decide (c ≠ a)) (w b) ∧ w a b ≤ t.1.length := by
  obtain ⟨ps, ts, g, hp, e⟩ := ht.ex
  obtain ⟨m, M⟩ := weights g
  have nd := g.nd
  have hpl := hp.length_eq
  rw [rangeL_length] at hpl
  have hn : ps.length = t.1.length := by omega
  have hv : ∀ x ∈ ts, x.a < x.b := fun x hx => (g.in x hx).2.2
  have perm : ∀ b, (nearOf t.2 b).Perm (nbr ts b) := fun b => by
    unfold nearOf nbr
    rw [e]
    exact (sortT_perm _).trans ((sortT_perm ts).filterMap _)
  refine ⟨fun a b => sumF ps (fun x => m a b x), fun a b ha => ?_⟩
  have ha' : a ∈ nbr ts b := (perm b).mem_iff.mp ha
  obtain ⟨h1, h2, h3⟩ := nbr_in g ha'
  constructor
  · have e1 : sumF ps (fun x => m a b x) = sumF ps (fun x => ind x b + sumF ((nbr ts b).filter fun c => decide (c ≠ a)) (fun c => m b c x)) := sumF_congr fun x hx => M.one a b x ha' hx
    show sumF ps (fun x => m a b x) = _
    rw [e1, sumF_add, sumF_ind nd h2, sumF_swap]
    rw [sumF_perm ((perm b).filter _)]
  · rw [← hn]
    refine sumF_le fun x hx => ?_
    have := M.all a x h1 hx
    have hb := nbr_sym hv ha'
    have := sumF_mem (f := fun c => m a c x) hb
    omega

/-! ### ways -/
def Step (t : Tr) (x y c : Int) : Prop := ∃ z ∈ t.2, ((z.a = x ∧ z.b = y) ∨ (z.a = y ∧ z.b = x)) ∧ z.c = c
theorem whL_runN {s r : Type} {b : s → M (Ws s r)} (P : Nat → s → Prop) (Qf : s → Prop) (step : ∀ m x, P m x → (∃ x' m', m' < m ∧ b x = .ok (.go x') ∧ P m' x') ∨ (∃ x', b x = .ok (.stop x') ∧ Qf x')) : ∀ (n m : Nat) (x : s), P m x → m < n → ∃ x', whL b n x = .ok (.nx x') ∧ Qf x'
  | 0, m, x, _, h => absurd h (Nat.not_lt_zero _)
  | n + 1, m, x, p, h => by
    rcases step m x p with ⟨x', m', l, e, p'⟩ | ⟨x', e, q⟩
    · obtain ⟨x2, e2, q2⟩ := whL_runN P Qf step n m' x' p' (by omega)
      refine ⟨x2, ?_, q2⟩
      show (b x >>= _) = _
      rw [bind_ok e]
      exact e2
    · refine ⟨x', ?_, q⟩
      show (b x >>= _) = _
      rw [bind_ok e]
theorem dGet_mem {κ β : Type} [DecidableEq κ] [Py β] : ∀ {xs : List (κ × β)} {k : κ} {v : β}, (xs.map (·.1)).Nodup → (k, v) ∈ xs → dGet xs k = some v
  | [], _, _, _, h => by cases h
  | p :: xs, k, v, nd, h => by
    rw [List.map_cons, List.nodup_cons] at nd
    rcases List.mem_cons.mp h with e | h
    · rw [← e]; exact dGet_pos rfl
    · rw [dGet_neg (fun e => nd.1 (List.mem_map.mpr ⟨(k, v), h, e.symm⟩))]
      exact dGet_mem nd.2 h
theorem dHas_iff {κ β : Type} [DecidableEq κ] [Py β] : ∀ {xs : List (κ × β)} {k : κ}, dHas xs k = true ↔ k ∈ xs.map (·.1)
  | [], k => by simp [dHas, dGet]
  | p :: xs, k => by
    rw [List.map_cons, List.mem_cons]
    unfold dHas
    by_cases e : p.1 = k
    · rw [dGet_pos e]; simp [e]
    · rw [dGet_neg e]
      have := dHas_iff (xs := xs) (k := k)
      unfold dHas at this
      rw [this]
      constructor
      · exact .inr
      · rintro (z | z)
        · exact (e z.symm).elim
        · exact z
theorem lenOf_nd {t : Tr} (ht : TreeOk t) : ((lenOf t.2).map (·.1)).Nodup := by
  refine (keys_perm t.2).nodup_iff.mpr (List.nodup_append.mpr ⟨tree_pairs ht, ?_, ?_⟩)
  · have h : (t.2.map fun x => (x.b, x.a)) = (t.2.map fun x => (x.a, x.b)).map fun p => (p.2, p.1) := by rw [List.map_map]; rfl
    rw [h]
    refine List.Pairwise.map _ ?_ (tree_pairs ht)
    intro a b hab e
    injection e with e1 e2
    exact hab (Prod.ext e2 e1)
  · rintro p hp q hq e
    subst e
    obtain ⟨x, hx, e1⟩ := List.mem_map.mp hp
    obtain ⟨y, hy, e2⟩ := List.mem_map.mp hq
    have h1 := ht.tie x hx
    have h2 := ht.tie y hy
    rw [← e2] at e1
    injection e1 with a1 a2
    omega
theorem step_len {t : Tr} (ht : TreeOk t) {x y c : Int} (h : Step t x y c) : dGet (lenOf t.2) (x, y) = some c := by
  obtain ⟨z, hz, ⟨a, b⟩ | ⟨a, b⟩, e⟩ := h
  · exact dGet_mem (lenOf_nd ht) (lenOf_mem.mpr ⟨z, hz, .inl (by rw [a, b, e])⟩)
  · exact dGet_mem (lenOf_nd ht) (lenOf_mem.mpr ⟨z, hz, .inr (by rw [a, b, e])⟩)
theorem step_rg {t : Tr} (ht : TreeOk t) {x y c : Int} (h : Step t x y c) : (0 ≤ x ∧ x < (t.1.length : Int)) ∧ (0 ≤ y ∧ y < (t.1.length : Int)) ∧ x ≠ y := by
  obtain ⟨z, hz, h, e⟩ := h
  have := ht.tie z hz
  omega
theorem near_step {t : Tr} (ht : TreeOk t) {x y : Int} : y ∈ nearOf t.2 x ↔ ∃ c, Step t x y c := by
  rw [nearOf_mem fun z hz => (ht.tie z hz).2.1]
  constructor
  · rintro ⟨z, hz, h⟩
    exact ⟨z.c, z, hz, by omega, rfl⟩
  · rintro ⟨c, z, hz, h, e⟩
    exact ⟨z, hz, by omega⟩

/-! ### ways: the one way between two places -/
inductive Way (t : Tr) : Int → List Int → Int → Int → Prop
  | one (x : Int) : Way t x [] x 0
  | cons {x y z l d : Int} {ps : List Int} : Step t x y l → Way t y ps z d → Way t x (y :: ps) z (l + d)
theorem sumF_two {l : List Int} {f : Int → Nat} {x y : Int} (hx : x ∈ l) (hy : y ∈ l) (h : x ≠ y) : f x + f y ≤ sumF l f := by
  induction l with
  | nil => cases hx
  | cons z l ih =>
    have e : sumF (z :: l) f = f z + sumF l f := rfl
    rw [e]
    rcases List.mem_cons.mp hx with hx | hx <;> rcases List.mem_cons.mp hy with hy | hy
    · exact (h (hx.trans hy.symm)).elim
    · rw [hx]
      have := sumF_mem (f := f) hy
      omega
    · rw [hy]
      have := sumF_mem (f := f) hx
      omega
    · have := ih hx hy
      omega
theorem stp_sym {t : Tr} {a b l : Int} (h : Step t a b l) : Step t b a l := by
  obtain ⟨z, hz, h, e⟩ := h
  exact ⟨z, hz, by omega, e⟩
structure Ld (t : Tr) (m : Int → Int → Int → Nat) : Prop where
  le : ∀ a b c x, a ∈ nearOf t.2 b → c ∈ nearOf t.2 b → c ≠ a → 0 ≤ x → x < (t.1.length : Int) → m b c x ≤ m a b x
  at_ : ∀ a b, a ∈ nearOf t.2 b → 1 ≤ m a b b
  one : ∀ q x c c', 0 ≤ x → x < (t.1.length : Int) → c ∈ nearOf t.2 q → c' ∈ nearOf t.2 q → 1 ≤ m q c x → 1 ≤ m q c' x → c = c'
theorem leads {t : Tr} (ht : TreeOk t) : ∃ m, Ld t m := by
  obtain ⟨ps, ts, g, hp, e⟩ := ht.ex
  obtain ⟨m, M⟩ := weights g
  have perm : ∀ b, (nearOf t.2 b).Perm (nbr ts b) := fun b => by
    unfold nearOf nbr
    rw [e]
    exact (sortT_perm _).trans ((sortT_perm ts).filterMap _)
  have inp : ∀ x : Int, 0 ≤ x → x < (t.1.length : Int) → x ∈ ps := fun x h0 h1 => hp.mem_iff.mpr (rangeL_mem.mpr ⟨h0, h1⟩)
  refine ⟨m, fun a b c x ha hc hca x0 x1 => ?_, fun a b ha => ?_, fun q x c c' x0 x1 hc hc' h1 h2 => ?_⟩
  · have ha' := (perm b).mem_iff.mp ha
    have hc' := (perm b).mem_iff.mp hc
    rw [M.one a b x ha' (inp x x0 x1)]
    have := sumF_mem (l := (nbr ts b).filter fun c => decide (c ≠ a)) (f := fun c => m b c x) (List.mem_filter.mpr ⟨hc', decide_eq_true hca⟩)
    have h2 : m b c x ≤ _ := this
    omega
  · have ha' := (perm b).mem_iff.mp ha
    rw [M.one a b b ha' (nbr_in g ha').2.1]
    unfold ind
    rw [if_pos rfl]
    omega
  · refine Classical.byContradiction fun hne => ?_
    have k1 := (perm q).mem_iff.mp hc
    have k2 := (perm q).mem_iff.mp hc'
    have h3 := M.all q x (nbr_in g k1).2.1 (inp x x0 x1)
    have h4 := sumF_two (f := fun c => m q c x) k1 k2 hne
    have h4 : m q c x + m q c' x ≤ _ := h4
    omega
section
variable {t : Tr} (ht : TreeOk t)
include ht
theorem way_rg {x z d : Int} {ps : List Int} (h : Way t x ps z d) (x0 : 0 ≤ x) (x1 : x < (t.1.length : Int)) : 0 ≤ z ∧ z < (t.1.length : Int) := by
  induction h with
  | one x => exact ⟨x0, x1⟩
  | cons hs _ ih =>
    have := step_rg ht hs
    exact ih this.2.1.1 this.2.1.2
theorem way_lead {m : Int → Int → Int → Nat} (L : Ld t m) {y z d : Int} {ps : List Int} (h : Way t y ps z d) : ∀ {x l : Int}, Step t x y l → (x :: y :: ps).Nodup → 1 ≤ m x y z := by
  induction h with
  | one y =>
    intro x l hs _
    exact L.at_ x y ((near_step ht).mpr ⟨l, stp_sym hs⟩)
  | @cons y y2 z l2 d ps hs2 hw ih =>
    intro x l hs nd
    have hn := List.nodup_cons.mp nd
    have h1 := ih hs2 hn.2
    have rg := step_rg ht hs2
    have hz := way_rg ht hw rg.2.1.1 rg.2.1.2
    have h2 := L.le x y y2 z ((near_step ht).mpr ⟨l, stp_sym hs⟩) ((near_step ht).mpr ⟨l2, hs2⟩) (fun e => hn.1 (by rw [← e]; simp)) hz.1 hz.2
    omega
omit ht in
theorem way_mem {x z d : Int} {ps : List Int} (h : Way t x ps z d) : z ∈ x :: ps := by
  induction h with
  | one x => simp
  | cons _ _ ih => exact List.mem_cons_of_mem _ ih
theorem way_uniq {x z d : Int} {ps : List Int} (h : Way t x ps z d) : ∀ {qs : List Int} {e : Int}, Way t x qs z e → (x :: ps).Nodup → (x :: qs).Nodup → ps = qs ∧ d = e := by
  obtain ⟨m, L⟩ := leads ht
  induction h with
  | one x =>
    intro qs e hq _ nq
    cases hq with
    | one => exact ⟨rfl, rfl⟩
    | cons hs hw => exact absurd (way_mem hw) (List.nodup_cons.mp nq).1
  | @cons x y z l d ps hs hw ih =>
    intro qs e hq np nq
    cases hq with
    | one => exact absurd (way_mem hw) (List.nodup_cons.mp np).1
    | @cons _ y' _ l' d' qs hs' hw' =>
      have rg := step_rg ht hs
      have hz := way_rg ht hw rg.2.1.1 rg.2.1.2
      have e1 := L.one x z y y' hz.1 hz.2 ((near_step ht).mpr ⟨l, hs⟩) ((near_step ht).mpr ⟨l', hs'⟩) (way_lead ht L hw hs np) (way_lead ht L hw' hs' nq)
      subst e1
      have el : l = l' := Option.some.inj ((step_len ht hs).symm.trans (step_len ht hs'))
      subst el
      obtain ⟨i1, i2⟩ := ih hw' (List.nodup_cons.mp np).2 (List.nodup_cons.mp nq).2
      exact ⟨by rw [i1], by rw [i2]⟩
omit ht
theorem way_snoc {x z d y l : Int} {ps : List Int} (h : Way t x ps z d) (hs : Step t z y l) : Way t x (ps ++ [y]) y (d + l) := by
  induction h with
  | one x =>
    have := Way.cons hs (Way.one y)
    rw [Int.add_zero] at this
    rw [Int.zero_add]
    exact this
  | cons h1 _ ih =>
    rw [Int.add_assoc]
    exact Way.cons h1 (ih hs)
theorem way_pre {x z d b : Int} {ps : List Int} (h : Way t x ps z d) : b ∈ x :: ps → ∃ qs e, Way t x qs b e ∧ ∃ rs, ps = qs ++ rs := by
  induction h with
  | one x =>
    intro hb
    have hb := List.mem_singleton.mp hb
    subst hb
    exact ⟨[], 0, Way.one _, [], rfl⟩
  | @cons x y z l d ps hs _ ih =>
    intro hb
    by_cases e : b = x
    · subst e
      exact ⟨[], 0, Way.one _, y :: ps, rfl⟩
    · obtain ⟨qs, e2, h1, rs, h2⟩ := ih (by
        rcases List.mem_cons.mp hb with h | h
        · exact (e h).elim
        · exact h)
      exact ⟨y :: qs, l + e2, Way.cons hs h1, rs, by rw [h2]; rfl⟩
theorem way_app {x y z d e : Int} {ps qs : List Int} (h : Way t x ps y d) (h2 : Way t y qs z e) : Way t x (ps ++ qs) z (d + e) := by
  induction h with
  | one x => rw [Int.zero_add]; exact h2
  | cons hs _ ih => rw [Int.add_assoc]; exact Way.cons hs (ih h2)
theorem way_rev {x z d : Int} {ps : List Int} (h : Way t x ps z d) : ∃ qs, Way t z qs x d ∧ z :: qs = (x :: ps).reverse := by
  induction h with
  | one x => exact ⟨[], Way.one x, rfl⟩
  | @cons x y z l d ps hs _ ih =>
    obtain ⟨qs, h1, h2⟩ := ih
    refine ⟨qs ++ [x], ?_, ?_⟩
    · rw [Int.add_comm]
      exact way_snoc h1 (stp_sym hs)
    · rw [List.reverse_cons, ← h2]
      rfl
/-- how far it is -/
def Dist (t : Tr) (x y d : Int) : Prop := ∃ ps, Way t x ps y d ∧ (x :: ps).Nodup
theorem dist_uniq (ht : TreeOk t) {x y d e : Int} (h : Dist t x y d) (h2 : Dist t x y e) : d = e := by
  obtain ⟨ps, h, n⟩ := h
  obtain ⟨qs, h2, n2⟩ := h2
  exact (way_uniq ht h h2 n n2).2
theorem dist_self (x : Int) : Dist t x x 0 := ⟨[], Way.one x, by simp⟩
theorem dist_sym {x y d : Int} (h : Dist t x y d) : Dist t y x d := by
  obtain ⟨ps, h, n⟩ := h
  obtain ⟨qs, h1, h2⟩ := way_rev h
  exact ⟨qs, h1, by rw [h2]; exact (List.reverse_perm _).nodup_iff.mpr n⟩
theorem dist_all (ht : TreeOk t) {x : Int} (x0 : 0 ≤ x) (x1 : x < (t.1.length : Int)) : ∀ y, 0 ≤ y → y < (t.1.length : Int) → ∃ d, Dist t x y d := by
  have go : ∀ {a b l : Int}, Step t a b l → (∃ d, Dist t x a d) → ∃ d, Dist t x b d := fun {a b l} hs ⟨d, ps, h, n⟩ => by
    by_cases hb : b ∈ x :: ps
    · obtain ⟨qs, e, h1, rs, h2⟩ := way_pre h hb
      refine ⟨e, qs, h1, ?_⟩
      rw [h2] at n
      exact n.sublist (List.Sublist.cons_cons _ (List.sublist_append_left qs rs))
    · refine ⟨d + l, ps ++ [b], way_snoc h hs, ?_⟩
      rw [← List.cons_append]
      exact List.nodup_append.mpr ⟨n, by simp, fun u hu v hv e => hb (by rw [List.mem_singleton.mp hv] at e; rw [← e]; exact hu)⟩
  exact tree_all ht (fun y => ∃ d, Dist t x y d) (fun z hz => ⟨go ⟨z, hz, .inl ⟨rfl, rfl⟩, rfl⟩, go ⟨z, hz, .inr ⟨rfl, rfl⟩, rfl⟩⟩) x x0 x1 ⟨0, dist_self x⟩
theorem dist_fun (ht : TreeOk t) : ∃ D : Int → Int → Int, ∀ x y, 0 ≤ x → x < (t.1.length : Int) → 0 ≤ y → y < (t.1.length : Int) → Dist t x y (D x y) := by
  have h : ∀ p : Int × Int, ∃ d, 0 ≤ p.1 → p.1 < (t.1.length : Int) → 0 ≤ p.2 → p.2 < (t.1.length : Int) → Dist t p.1 p.2 d := fun p => by
    by_cases c : (0 ≤ p.1 ∧ p.1 < (t.1.length : Int)) ∧ 0 ≤ p.2 ∧ p.2 < (t.1.length : Int)
    · obtain ⟨d, hd⟩ := dist_all ht c.1.1 c.1.2 p.2 c.2.1 c.2.2
      exact ⟨d, fun _ _ _ _ => hd⟩
    · exact ⟨0, fun h1 h2 h3 h4 => (c ⟨⟨h1, h2⟩, h3, h4⟩).elim⟩
  obtain ⟨D, hD⟩ := Classical.skolem.mp h
  exact ⟨fun x y => D (x, y), fun x y h1 h2 h3 h4 => hD (x, y) h1 h2 h3 h4⟩
/-- .. by places of a list alone -/
def DistIn (t : Tr) (F : List Int) (x y d : Int) : Prop := ∃ ps, Way t x ps y d ∧ (x :: ps).Nodup ∧ ∀ p ∈ x :: ps, p ∈ F
theorem DistIn.dist {F : List Int} {x y d : Int} (h : DistIn t F x y d) : Dist t x y d := by
  obtain ⟨ps, h1, h2, _⟩ := h
  exact ⟨ps, h1, h2⟩
theorem DistIn.mono {F G : List Int} {x y d : Int} (h : DistIn t F x y d) (s : ∀ p ∈ F, p ∈ G) : DistIn t G x y d := by
  obtain ⟨ps, h1, h2, h3⟩ := h
  exact ⟨ps, h1, h2, fun p hp => s p (h3 p hp)⟩
theorem DistIn.next {F : List Int} {x y z l d : Int} (h : DistIn t F x y d) (hs : Step t y z l) (hz : z ∉ F) : DistIn t (F ++ [z]) x z (d + l) := by
  obtain ⟨ps, h1, h2, h3⟩ := h
  refine ⟨ps ++ [z], way_snoc h1 hs, ?_, fun p hp => ?_⟩
  · rw [← List.cons_append]
    exact List.nodup_append.mpr ⟨h2, by simp, fun u hu v hv e => hz (by rw [List.mem_singleton.mp hv] at e; rw [← e]; exact h3 u hu)⟩
  · rw [← List.cons_append] at hp
    rcases List.mem_append.mp hp with hp | hp
    · exact List.mem_append_left _ (h3 p hp)
    · exact List.mem_append_right _ hp
end
section
variable {t : Tr}
theorem way_split {x z d b : Int} {ps : List Int} (h : Way t x ps z d) : b ∈ x :: ps → ∃ qs rs e f, Way t x qs b e ∧ Way t b rs z f ∧ ps = qs ++ rs ∧ d = e + f := by
  induction h with
  | one x =>
    intro hb
    have hb := List.mem_singleton.mp hb
    subst hb
    exact ⟨[], [], 0, 0, Way.one _, Way.one _, rfl, rfl⟩
  | @cons x y z l d ps hs hw ih =>
    intro hb
    by_cases e : b = x
    · subst e
      exact ⟨[], y :: ps, 0, l + d, Way.one _, Way.cons hs hw, rfl, (Int.zero_add _).symm⟩
    · obtain ⟨qs, rs, e2, f, h1, h2, h3, h4⟩ := ih (by
        rcases List.mem_cons.mp hb with h | h
        · exact (e h).elim
        · exact h)
      exact ⟨y :: qs, rs, l + e2, f, Way.cons hs h1, h2, by rw [h3]; rfl, by rw [h4, Int.add_assoc]⟩
/-- a way without going round -/
theorem way_short {x z d : Int} {ps : List Int} (h : Way t x ps z d) : ∃ qs e, Way t x qs z e ∧ (x :: qs).Nodup ∧ ∀ p ∈ x :: qs, p ∈ x :: ps := by
  induction h with
  | one x => exact ⟨[], 0, Way.one x, by simp, fun p hp => hp⟩
  | @cons x y z l d ps hs _ ih =>
    obtain ⟨qs, e, h1, h2, h3⟩ := ih
    by_cases hx : x ∈ y :: qs
    · obtain ⟨us, rs, e1, f, g1, g2, g3, g4⟩ := way_split h1 hx
      refine ⟨rs, f, g2, ?_, fun p hp => ?_⟩
      · rw [g3, ← List.cons_append] at h2
        have n := List.nodup_append.mp h2
        exact List.nodup_cons.mpr ⟨fun hr => n.2.2 x (way_mem g1) x hr rfl, n.2.1⟩
      · rcases List.mem_cons.mp hp with e | hp
        · rw [e]; exact List.mem_cons_self
        · refine List.mem_cons_of_mem _ (h3 p ?_)
          rw [g3]
          exact List.mem_cons_of_mem _ (List.mem_append_right _ hp)
    · exact ⟨y :: qs, l + e, Way.cons hs h1, List.nodup_cons.mpr ⟨hx, h2⟩, fun p hp => by
        rcases List.mem_cons.mp hp with e | hp
        · rw [e]; exact List.mem_cons_self
        · exact List.mem_cons_of_mem _ (h3 p hp)⟩
end

/-! ### going over a tree from a place -/
structure Fs (t : Tr) (p : Int) (ks : List Int) (v : Int → Int) : Prop where
  nd : ks.Nodup
  rg : ∀ x ∈ ks, 0 ≤ x ∧ x < (t.1.length : Int)
  st : p ∈ ks
  ds : ∀ x ∈ ks, DistIn t ks p x (v x)
def updV (v : Int → Int) (k d : Int) : Int → Int := fun x => if x = k then d else v x
section
variable {t : Tr} {p : Int} {ks : List Int} {v : Int → Int}
theorem Fs.one (p0 : 0 ≤ p) (p1 : p < (t.1.length : Int)) {v : Int → Int} (h : v p = 0) : Fs t p [p] v where
  nd := by simp
  rg := fun x hx => by rw [List.mem_singleton.mp hx]; exact ⟨p0, p1⟩
  st := List.mem_singleton.mpr rfl
  ds := fun x hx => by
    rw [List.mem_singleton.mp hx, h]
    exact ⟨[], Way.one p, by simp, fun q hq => hq⟩
theorem Fs.len (h : Fs t p ks v) : ks.length ≤ t.1.length := by
  have := nd_sub_len (m := rangeL 0 (t.1.length : Int)) h.nd fun x hx => rangeL_mem.mpr (h.rg x hx)
  rw [rangeL_length] at this
  omega
theorem Fs.add (ht : TreeOk t) (h : Fs t p ks v) {y z l : Int} (hs : Step t y z l) (hy : y ∈ ks) (hz : z ∉ ks) : Fs t p (ks ++ [z]) (updV v z (v y + l)) where
  nd := List.nodup_append.mpr ⟨h.nd, by simp, fun a ha b hb e => hz (by rw [List.mem_singleton.mp hb] at e; rw [← e]; exact ha)⟩
  rg := fun x hx => by
    rcases List.mem_append.mp hx with hx | hx
    · exact h.rg x hx
    · rw [List.mem_singleton.mp hx]; exact (step_rg ht hs).2.1
  st := List.mem_append_left _ h.st
  ds := fun x hx => by
    unfold updV
    by_cases e : x = z
    · rw [if_pos e, e]
      exact (h.ds y hy).next hs hz
    · rw [if_neg e]
      rcases List.mem_append.mp hx with hx | hx
      · exact (h.ds x hx).mono fun q hq => List.mem_append_left _ hq
      · exact (e (List.mem_singleton.mp hx)).elim
theorem Fs.all (ht : TreeOk t) (h : Fs t p ks v) (hc : ∀ x ∈ ks, ∀ y l, Step t x y l → y ∈ ks) : ∀ y, 0 ≤ y → y < (t.1.length : Int) → y ∈ ks ∧ Dist t p y (v y) := by
  have hp := h.rg p h.st
  have := tree_all ht (fun y => y ∈ ks) (fun z hz => ⟨fun q => hc _ q _ _ ⟨z, hz, .inl ⟨rfl, rfl⟩, rfl⟩, fun q => hc _ q _ _ ⟨z, hz, .inr ⟨rfl, rfl⟩, rfl⟩⟩) p hp.1 hp.2 h.st
  exact fun y y0 y1 => ⟨this y y0 y1, (h.ds y (this y y0 y1)).dist⟩
end
/-- while the neighbours of one place are looked at -/
structure Vs (t : Tr) (p : Int) (ks0 ini ks : List Int) (v : Int → Int) (wt : List Int) : Prop where
  f : Fs t p ks v
  s0 : ∀ x ∈ ks0, x ∈ ks
  ln : wt.length + ks0.length = ini.length + ks.length
  ws : ∀ x ∈ wt, x ∈ ks
  is : ∀ x ∈ ini, x ∈ wt
  nw : ∀ x ∈ ks, x ∈ ks0 ∨ x ∈ wt
/-- ahead of it and behind it -/
structure Ws (t : Tr) (p : Int) (m : Nat) (ks : List Int) (v : Int → Int) (wt : List Int) : Prop where
  f : Fs t p ks v
  m1 : m + 2 * ks.length = 2 * t.1.length + wt.length
  m2 : m ≤ 2 * t.1.length
  ws : ∀ x ∈ wt, x ∈ ks
  cl : ∀ x ∈ ks, x ∈ wt ∨ ∀ y l, Step t x y l → y ∈ ks
section
variable {t : Tr} {p : Int} {ks0 ini ks wt : List Int} {v : Int → Int} {m : Nat}
theorem Ws.one (p0 : 0 ≤ p) (p1 : p < (t.1.length : Int)) {v : Int → Int} (h : v p = 0) : Ws t p (2 * t.1.length - 1) [p] v [p] where
  f := Fs.one p0 p1 h
  m1 := by show 2 * t.1.length - 1 + 2 * 1 = 2 * t.1.length + 1; omega
  m2 := by omega
  ws := fun _ h => h
  cl := fun _ h => .inl h
theorem Ws.enter {here : Int} (h : Ws t p m ks v (ini ++ [here])) : Vs t p ks ini ks v ini where
  f := h.f
  s0 := fun _ h => h
  ln := by omega
  ws := fun x hx => h.ws x (List.mem_append_left _ hx)
  is := fun _ h => h
  nw := fun _ h => .inl h
theorem Vs.add (ht : TreeOk t) (h : Vs t p ks0 ini ks v wt) {here y l : Int} (hh : here ∈ ks0) (hs : Step t here y l) (hy : y ∉ ks) : Vs t p ks0 ini (ks ++ [y]) (updV v y (v here + l)) (wt ++ [y]) where
  f := h.f.add ht hs (h.s0 here hh) hy
  s0 := fun x hx => List.mem_append_left _ (h.s0 x hx)
  ln := by
    have := h.ln
    rw [List.length_append, List.length_append, List.length_singleton]
    omega
  ws := fun x hx => by
    rcases List.mem_append.mp hx with hx | hx
    · exact List.mem_append_left _ (h.ws x hx)
    · exact List.mem_append_right _ hx
  is := fun x hx => List.mem_append_left _ (h.is x hx)
  nw := fun x hx => by
    rcases List.mem_append.mp hx with hx | hx
    · rcases h.nw x hx with z | z
      · exact .inl z
      · exact .inr (List.mem_append_left _ z)
    · exact .inr (List.mem_append_right _ hx)
theorem Vs.leave {here : Int} (h0 : Ws t p m ks0 v (ini ++ [here])) {v' : Int → Int} (h : Vs t p ks0 ini ks v' wt) (hn : ∀ y l, Step t here y l → y ∈ ks) : ∃ m', m' < m ∧ Ws t p m' ks v' wt := by
  have h1 := h0.m1
  have h2 := h0.m2
  have h3 := h.ln
  have h4 := h.f.len
  rw [List.length_append, List.length_singleton] at h1
  have h5 : ks0.length ≤ ks.length := nd_sub_len h0.f.nd h.s0
  have h6 := h0.f.len
  refine ⟨2 * t.1.length + wt.length - 2 * ks.length, by omega, h.f, by omega, by omega, h.ws, fun x hx => ?_⟩
  rcases h.nw x hx with z | z
  · rcases h0.cl x z with q | q
    · rcases List.mem_append.mp q with q | q
      · exact .inl (h.is x q)
      · rw [List.mem_singleton.mp q]; exact .inr hn
    · exact .inr fun y l hs => h.s0 y (q y l hs)
  · exact .inl z
theorem Ws.fin (ht : TreeOk t) (h : Ws t p m ks v []) : ∀ y, 0 ≤ y → y < (t.1.length : Int) → y ∈ ks ∧ Dist t p y (v y) := h.f.all ht fun x hx => by
  rcases h.cl x hx with z | z
  · exact nomatch z
  · exact z
end
/-- the last one of a list, and the others -/
theorem nil_or_last {a : Type} : ∀ l : List a, l = [] ∨ ∃ i x, l = i ++ [x]
  | [] => .inl rfl
  | x :: xs => by
    rcases nil_or_last xs with e | ⟨i, y, e⟩
    · exact .inr ⟨[], x, by rw [e]; rfl⟩
    · exact .inr ⟨x :: i, y, by rw [e]; rfl⟩
theorem popL_last {a : Type} (xs : List a) (x : a) : popL (xs ++ [x]) = .ok (x, xs) := by
  unfold popL
  rw [List.length_append, List.length_singleton, Nat.add_sub_cancel, List.getElem?_append_right (Nat.le_refl _), Nat.sub_self]
  show Except.ok (x, (xs ++ [x]).dropLast) = _
  rw [List.dropLast_concat]
theorem whL_runM {s r : Type} {b : s → M (PG.Ws s r)} (P : Nat → s → Prop) (Qf : s → Prop) (step : ∀ m x, P m x → (∃ x' m', m' < m ∧ b x = .ok (.go x') ∧ P m' x') ∨ (∃ x', b x = .ok (.stop x') ∧ Qf x')) : ∀ (n m : Nat) (x : s), P m x → m < n → ∃ x', whL b n x = .ok (.nx x') ∧ Qf x'
  | 0, m, x, _, h => absurd h (Nat.not_lt_zero _)
  | n + 1, m, x, p, h => by
    rcases step m x p with ⟨x', m', l, e, p'⟩ | ⟨x', e, q⟩
    · obtain ⟨x2, e2, q2⟩ := whL_runM P Qf step n m' x' p' (by omega)
      refine ⟨x2, ?_, q2⟩
      show (b x >>= _) = _
      rw [bind_ok e]
      exact e2
    · refine ⟨x', ?_, q⟩
      show (b x >>= _) = _
      rw [bind_ok e]

theorem whL_runB {s r b : Type} {f : s → M (PG.Ws s r)} {n : Nat} {x : s} {k : Fl s r → M b} {Q : b → Prop} (m : Nat) (P : Nat → s → Prop) (Qf : s → Prop) (step : ∀ m x, P m x → (∃ x' m', m' < m ∧ f x = .ok (.go x') ∧ P m' x') ∨ (∃ x', f x = .ok (.stop x') ∧ Qf x')) (p : P m x) (h : m < n) (hk : ∀ x', Qf x' → ∃ y, k (.nx x') = .ok y ∧ Q y) : ∃ y, (whL f n x >>= k) = .ok y ∧ Q y := by
  obtain ⟨st, e, g⟩ := whL_runM P Qf step n m x p h
  obtain ⟨r, e2, q⟩ := hk st g
  exact ⟨r, by rw [bind_ok e]; exact e2, q⟩
theorem go_of {s r : Type} {m : M (PG.Ws s r)} {n : Nat} {P : Nat → s → Prop} (h : ∃ y, m = .ok y ∧ ∃ m' x', y = .go x' ∧ m' < n ∧ P m' x') : ∃ x' m', m' < n ∧ m = .ok (.go x') ∧ P m' x' := by
  obtain ⟨y, e, m', x', e2, l, p⟩ := h
  subst e2
  exact ⟨x', m', l, e, p⟩

def valD (f : List (Int × Int)) (x : Int) : Int := (dGet f x).getD 0
theorem dGet_in {f : List (Int × Int)} {x : Int} (h : x ∈ f.map (·.1)) : dGet f x = some (valD f x) := by
  unfold valD
  cases e : dGet f x with
  | some v => rfl
  | none =>
    have := (dHas_iff (xs := f) (k := x)).mpr h
    unfold dHas at this
    rw [e] at this
    exact nomatch this
theorem dGet_end : ∀ {f : List (Int × Int)} {x k d : Int}, k ∉ f.map (·.1) → dGet (f ++ [(k, d)]) x = if x = k then some d else dGet f x
  | [], x, k, d, _ => by
    by_cases h : x = k
    · rw [if_pos h, List.nil_append, dGet_pos (p := (k, d)) h.symm]
    · rw [if_neg h, List.nil_append, dGet_neg (p := (k, d)) (fun z => h z.symm)]
  | p :: f, x, k, d, hk => by
    rw [List.map_cons] at hk
    have h1 : p.1 ≠ k := fun e => hk (by rw [e]; exact List.mem_cons_self)
    rw [List.cons_append]
    by_cases e2 : p.1 = x
    · rw [dGet_pos e2, dGet_pos e2, if_neg (fun z => h1 (e2.trans z))]
    · rw [dGet_neg e2, dGet_neg e2, dGet_end fun z => hk (List.mem_cons_of_mem _ z)]
theorem dGet_app {f : List (Int × Int)} {x k d : Int} (hk : k ∉ f.map (·.1)) : valD (f ++ [(k, d)]) x = updV (valD f) k d x := by
  unfold updV valD
  rw [dGet_end hk]
  by_cases h : x = k
  · rw [if_pos h, if_pos h]; rfl
  · rw [if_neg h, if_neg h]

/-! ### numbers, worths, ties, a tree -/
theorem numbers_ok (c m base : Int) (m0 : 0 ≤ m) (m1 : m ≤ 1000) (t0 : 0 < base) (t1 : base ≤ 10 ^ 40) : ∃ xs, m_law_numbers c m base = .ok xs ∧ (xs.length : Int) = m ∧ ∀ x ∈ xs, 0 ≤ x ∧ x < base := by
  unfold m_law_numbers
  rw [chk_b (show CMulX ((10 : Int) ^ Int.toNat (45 : Int)) ((10 : Int) ^ Int.toNat (45 : Int)) from .inr (cmulW (by decide +kernel) (by decide +kernel))), chk_b (by decide), ret_b, chk_b (show okR m from ⟨by omega, by omega⟩)]
  obtain ⟨C, hC⟩ : ∃ C, C = c % ((10 : Int) ^ Int.toNat (45 : Int) * (10 : Int) ^ Int.toNat (45 : Int)) := ⟨_, rfl⟩
  rw [← hC]
  refine loopN_runB (fun pre st => st.2.length = pre.length ∧ ∀ x ∈ st.2, 0 ≤ x ∧ x < base) ⟨rfl, fun _ z => nomatch z⟩ (fun pre y post ⟨r, xs⟩ ea ⟨g1, g2⟩ => ?_) (fun st ⟨g1, g2⟩ => ?_)
  · have g1 : xs.length = pre.length := g1
    have g2 : ∀ x ∈ xs, 0 ≤ x ∧ x < base := g2
    have hpl : pre.length < (rangeL 0 m).length := by rw [ea]; simp
    rw [rangeL_length] at hpl
    dsimp only
    rw [chk_b (mulx_l (by decide) (by decide)), chk_b (mulx_r (by decide) (by decide)), chk_b (by decide), ret_b]
    have b0 := Int.emod_nonneg ((C + 977 * y + 1) * 48271) (show (2147483647 : Int) ≠ 0 by decide)
    have b1 := Int.emod_lt_of_pos ((C + 977 * y + 1) * 48271) (show (0 : Int) < 2147483647 by decide)
    rw [chk_b (mulx_l (by omega) (by omega)), chk_b (by decide), ret_b, chk_b (mulx_l (by decide) (by decide)), chk_b (mulx_r (by decide) (by decide)), chk_b (by decide), chk_b (cdivW (by decide) (by decide)), ret_b]
    have both : ∀ z : Int, (xs ++ [z % base]).length = (pre ++ [y]).length ∧ ∀ x ∈ xs ++ [z % base], 0 ≤ x ∧ x < base := fun z => by
      refine ⟨by rw [List.length_append, List.length_append, g1]; rfl, fun x hx => ?_⟩
      rcases List.mem_append.mp hx with hx | hx
      · exact g2 x hx
      · rw [List.mem_singleton.mp hx]
        exact ⟨Int.emod_nonneg _ (by omega), Int.emod_lt_of_pos _ t0⟩
    by_cases hc : ((10 : Int) ^ Int.toNat (18 : Int)) ≤ C
    · rw [if_pos hc]
      exact ⟨_, by rw [chk_b (cdivW t0 t1), chk_b t0, bind_ok (appL_ok (by omega))], both r⟩
    · rw [if_neg hc]
      exact ⟨_, by rw [chk_b t0, bind_ok (appL_ok (by omega))], both _⟩
  · rw [rangeL_length] at g1
    exact ⟨st.2, rfl, by omega, g2⟩
theorem worths_ok (s : List Int) (m : Int) (m0 : 0 ≤ m) (m1 : m ≤ 1000) : ∃ ws, m_law_worths s m = .ok ws ∧ (ws.length : Int) = m ∧ ∀ x ∈ ws, x.natAbs < 2 ^ 99 := by
  obtain ⟨c3, e3⟩ := cell_ok s 3 (by decide)
  obtain ⟨c0, e0⟩ := cell_ok s 0 (by decide)
  obtain ⟨ns, e1, l1, b1⟩ := numbers_ok c3 m 90 m0 m1 (by decide) (by decide)
  unfold m_law_worths
  rw [bind_ok e3, bind_ok e0, chk_b (cdivW (by decide) (by decide)), chk_b (by decide)]
  obtain ⟨kd, hkd⟩ : ∃ kd, kd = c0 / 2048 % 4 := ⟨_, rfl⟩
  rw [← hkd]
  by_cases h1 : kd = 1
  · rw [if_pos h1, chk_b (show CRep ([(0 : Int)]).length m from ⟨by omega, by omega, by show 1 * _ < _; omega⟩)]
    refine ⟨_, rfl, by rw [rep0, List.length_replicate]; omega, fun x hx => ?_⟩
    rw [rep0] at hx
    rw [(List.mem_replicate.mp hx).2]
    decide
  · rw [if_neg h1, bind_ok e1]
    refine loopN_runB (fun pre st => st.length = pre.length ∧ ∀ x ∈ st, x.natAbs < 2 ^ 99) ⟨rfl, fun _ z => nomatch z⟩ (fun pre y post st ea ⟨g1, g2⟩ => ?_) (fun st ⟨g1, g2⟩ => ⟨st, rfl, by omega, g2⟩)
    have hy := b1 y (by rw [ea]; simp)
    have hpl : pre.length < ns.length := by rw [ea]; simp
    have both : ∀ z : Int, z.natAbs < 2 ^ 99 → ∃ x', (appL st z >>= fun _ => (.ok (st ++ [z]) : M (List Int))) = .ok x' ∧ x'.length = (pre ++ [y]).length ∧ ∀ x ∈ x', x.natAbs < 2 ^ 99 := fun z hz => by
      refine ⟨st ++ [z], by rw [bind_ok (appL_ok (by omega))], by rw [List.length_append, List.length_append, g1]; rfl, fun x hx => ?_⟩
      rcases List.mem_append.mp hx with hx | hx
      · exact g2 x hx
      · rw [List.mem_singleton.mp hx]; exact hz
    have e28 : (10 : Int) ^ Int.toNat 28 = 10000000000000000000000000000 := by decide
    rw [chk_b (by decide)]
    by_cases h2 : kd = 2
    · rw [if_pos h2, if_neg (by omega), e28, chk_b (cmulW (Nat.lt_of_lt_of_le (show (y - 45).natAbs < 100 by omega) (by decide +kernel)) (by decide +kernel))]
      refine both _ (Nat.lt_of_le_of_lt (m := 460000000000000000000000000000) (by omega) (by decide))
    · rw [if_neg h2]
      by_cases h3 : kd = 3
      · rw [if_pos h3, chk_b (by decide)]
        exact both _ (Nat.lt_of_le_of_lt (m := 1000) (by omega) (by decide))
      · rw [if_neg h3]
        exact both _ (Nat.lt_of_le_of_lt (m := 1000) (by omega) (by decide))
theorem names_ok (os : List Int) (m : Int) (m0 : 0 ≤ m) (m1 : m ≤ 1000) (ol : (os.length : Int) = m) : ∃ o, (∀ {b : Type} (k : List Int × List Int → M b), (compS (fun (y58 : Int) (st76 : (List Int)) =>
    opt (L2.atI os y58) >>= fun y87 =>
    chk (0 < (st76.length : Int)) >>= fun _ =>
    popI st76 (y87 % (st76.length : Int)) >>= fun t102 =>
    .ok (some t102.1, t102.2)) (rangeL 0 m) (rangeL 0 m) >>= k) = k (o, [])) ∧ o.Perm (rangeL 0 m) := by
  obtain ⟨acc, st, e, g1, g2⟩ := compS_run (f := fun (y58 : Int) (st76 : (List Int)) =>
    opt (L2.atI os y58) >>= fun y87 =>
    chk (0 < (st76.length : Int)) >>= fun _ =>
    popI st76 (y87 % (st76.length : Int)) >>= fun t102 =>
    (.ok (some t102.1, t102.2) : M _)) (all := rangeL 0 m) (x := rangeL 0 m) (by rw [rangeL_length]; omega) (fun pre acc st => acc.length = pre.length ∧ (acc ++ st).Perm (rangeL 0 m)) ⟨rfl, List.Perm.refl _⟩ fun pre y post acc st ea ⟨g1, g2⟩ => by
      obtain ⟨hpl, y0, y1⟩ := range_pre ea
      have hl := g2.length_eq
      rw [List.length_append, rangeL_length] at hl
      have sl : 0 < st.length := by omega
      obtain ⟨x, x1, _⟩ := at_in (xs := os) y0 (by omega)
      have z0 := Int.emod_nonneg x (show (st.length : Int) ≠ 0 by omega)
      have z1 := Int.emod_lt_of_pos x (show (0 : Int) < (st.length : Int) by omega)
      obtain ⟨w, w1, w2⟩ := atI_some (xs := st) (j := x % (st.length : Int)) z0 z1
      have hj := (List.getElem?_eq_some_iff.mp w2)
      obtain ⟨hj1, hj2⟩ := hj
      refine ⟨some w, _, by rw [opt_b x1, chk_b (by omega), bind_ok (popI_ok z0 w2 (by omega))], by show (acc ++ [w]).length = _; rw [List.length_append, List.length_append, g1]; rfl, ?_⟩
      have hp := erase_perm hj1
      rw [hj2] at hp
      show (acc ++ [w] ++ st.eraseIdx (x % (st.length : Int)).toNat).Perm _
      rw [List.append_assoc]
      exact (List.Perm.append_left acc hp).trans g2
  have hl := g2.length_eq
  rw [List.length_append, g1] at hl
  have hst : st = [] := List.length_eq_zero_iff.mp (by omega)
  subst hst
  refine ⟨acc, fun k => by rw [bind_ok e], ?_⟩
  rw [List.append_nil] at g2
  exact g2
theorem ties_ok (s : List Int) (m least : Int) (m1 : 1 ≤ m) (m2 : m ≤ 100) (l0 : -1000 ≤ least) (l1 : least ≤ 1000) : ∃ ts, m_law_ties s m least = .ok ts ∧ (∀ ws : List Int, (ws.length : Int) = m → TreeOk (ws, ts)) ∧ (∀ z ∈ ts, z.c.natAbs < 2 ^ 100) ∧ (0 ≤ least → ∀ z ∈ ts, 0 ≤ z.c) := by
  obtain ⟨c1, e1⟩ := cell_ok s 1 (by decide)
  obtain ⟨c2, e2⟩ := cell_ok s 2 (by decide)
  obtain ⟨c0, e0⟩ := cell_ok s 0 (by decide)
  obtain ⟨c4, e4⟩ := cell_ok s 4 (by decide)
  obtain ⟨sh, f1, fl1, fb1⟩ := numbers_ok c1 m 120 (by omega) (by omega) (by decide) (by decide)
  obtain ⟨os, f2, fl2, _⟩ := numbers_ok c2 m 120 (by omega) (by omega) (by decide) (by decide)
  obtain ⟨ns, f4, fl4, fb4⟩ := numbers_ok c4 m 90 (by omega) (by omega) (by decide) (by decide)
  obtain ⟨o, ho, hp⟩ := names_ok os m (by omega) (by omega) fl2
  have ol := hp.length_eq
  rw [rangeL_length] at ol
  have ond : o.Nodup := hp.nodup_iff.mpr (rangeL_nodup _ _)
  unfold m_law_ties
  rw [bind_ok e1, bind_ok f1, bind_ok e2, bind_ok f2, chk_b (show okR m from ⟨by omega, by omega⟩), chk_b (show okR m from ⟨by omega, by omega⟩), ho]
  rw [bind_ok e0, chk_b (cdivW (by decide) (by decide)), chk_b (by decide), bind_ok e4, bind_ok f4]
  obtain ⟨kd, hkd⟩ : ∃ kd, kd = c0 / 512 % 4 := ⟨_, rfl⟩
  have k0 : 0 ≤ kd := by omega
  have k1 : kd < 4 := by omega
  rw [← hkd]
  have e28 : (10 : Int) ^ Int.toNat 28 = 10000000000000000000000000000 := by decide
  rw [e28]
  refine loopN_runB (fun pre st => (∀ z ∈ st, z.c.natAbs < 2 ^ 100) ∧ (0 ≤ least → ∀ z ∈ st, 0 ≤ z.c) ∧ (pre = [] ∧ st = [] ∨ Grown (o.take pre.length) st)) ⟨(fun _ z => nomatch z), (fun _ _ z => nomatch z), .inl ⟨rfl, rfl⟩⟩ (fun pre y post ts ea ⟨g1, g2, g3⟩ => ?_) (fun ts ⟨g1, g2, g3⟩ => ?_)
  · -- one place more
    have hpl : pre.length < ns.length := by
      have := congrArg List.length ea
      rw [enumL_len, List.length_append, List.length_cons] at this
      omega
    have hy : y.1 = (pre.length : Int) ∧ y.2 ∈ ns := by
      have h1 : (enumL ns)[pre.length]? = some y := by rw [ea, List.getElem?_append_right (Nat.le_refl _), Nat.sub_self]; rfl
      have h2 := enumL_get (xs := ns) (i := pre.length) (List.getElem?_eq_getElem hpl)
      have h3 : (enumL ns)[pre.length]? = some ((pre.length : Int), ns[pre.length]) := by
        have := congrArg (fun l => l[0]?) h2
        simpa using this
      rw [h3] at h1
      have h1 := Option.some.inj h1
      rw [← h1]
      exact ⟨rfl, List.getElem_mem hpl⟩
    obtain ⟨q, n⟩ := y
    obtain ⟨hq, hn⟩ := hy
    have hq : q = (pre.length : Int) := hq
    have hn := fb4 n hn
    dsimp only
    rw [chk_b (by decide), chk_b (by decide), chk_b (cmulW (Nat.lt_of_lt_of_le (show n.natAbs < 100 by omega) (by decide +kernel)) (by decide +kernel))]
    obtain ⟨l, b1, b2⟩ := atI_some (xs := [n % 9 + least, n % 3, n * 10000000000000000000000000000 + 1, 1]) (j := kd) k0 (by show kd < ((4 : Nat) : Int); omega)
    have hl : l.natAbs < 2 ^ 100 ∧ (0 ≤ least → 0 ≤ l) := by
      have hm := List.mem_of_getElem? b2
      simp only [List.mem_cons, List.not_mem_nil, or_false] at hm
      rcases hm with e | e | e | e
      · exact ⟨Nat.lt_of_le_of_lt (m := 10000) (by omega) (by decide), fun _ => by omega⟩
      · exact ⟨Nat.lt_of_le_of_lt (m := 10000) (by omega) (by decide), fun _ => by omega⟩
      · exact ⟨Nat.lt_of_le_of_lt (m := 900000000000000000000000000001) (by omega) (by decide), fun _ => by omega⟩
      · exact ⟨Nat.lt_of_le_of_lt (m := 10000) (by omega) (by decide), fun _ => by omega⟩
    rw [opt_b b1]
    obtain ⟨ok, p1, p2, p3⟩ := at_in (xs := o) (k := q) (by omega) (by omega)
    have tk : o.take (pre ++ [(q, n)]).length = o.take pre.length ++ [ok] := by
      rw [List.length_append, List.length_singleton, List.take_succ, show pre.length = q.toNat by omega, p3]
      rfl
    by_cases hq0 : (0 : Int) < q
    · rw [if_pos hq0]
      have gr : Grown (o.take pre.length) ts := by
        rcases g3 with ⟨e, _⟩ | g
        · rw [e] at hq; have hq : q = 0 := hq; omega
        · exact g
      have glen := gr.len
      rw [List.length_take] at glen
      have hnt : ok ∉ o.take pre.length := fun hm => by
        obtain ⟨i, hi⟩ := List.mem_iff_getElem?.mp hm
        rw [List.getElem?_take] at hi
        by_cases c : i < pre.length
        · rw [if_pos c] at hi
          have := nd_ix ond hi p3
          omega
        · rw [if_neg c] at hi; exact nomatch hi
      have fin : ∀ (j to : Int), 0 ≤ j → j < q → L2.atI o j = some to → o[j.toNat]? = some to →
          ∃ x', (appL ts (T3.mk (if to < ok then to else ok) (if to > ok then to else ok) l) >>= fun _ => (.ok (ts ++ [(T3.mk (if to < ok then to else ok) (if to > ok then to else ok) l)]) : M (List Tie))) = .ok x' ∧ (∀ z ∈ x', z.c.natAbs < 2 ^ 100) ∧ (0 ≤ least → ∀ z ∈ x', 0 ≤ z.c) ∧ (pre ++ [(q, n)] = [] ∧ x' = [] ∨ Grown (o.take (pre ++ [(q, n)]).length) x') := fun j to j0 j1 _ s3 => by
        have hto : to ∈ o.take pre.length := by
          refine List.mem_of_getElem? (i := j.toNat) ?_
          rw [List.getElem?_take, if_pos (by omega)]
          exact s3
        have hne : ok ≠ to := fun e => hnt (by rw [e]; exact hto)
        have gm := Grown.more to ok l gr hto hnt
        have et : (T3.mk (if to < ok then to else ok) (if to > ok then to else ok) l : Tie) = tieOf ok to l := by
          unfold tieOf
          by_cases c : ok ≤ to
          · rw [if_pos c, if_neg (by omega), if_pos (by omega)]
          · rw [if_neg c, if_pos (by omega), if_neg (by omega)]
        rw [et]
        refine ⟨ts ++ [tieOf ok to l], by rw [bind_ok (appL_ok (by omega))], fun z hz => ?_, fun h0 z hz => ?_, .inr (by rw [tk]; exact gm)⟩
        · rcases List.mem_append.mp hz with hz | hz
          · exact g1 z hz
          · rw [List.mem_singleton.mp hz, (tieOf_lt hne).2.2]; exact hl.1
        · rcases List.mem_append.mp hz with hz | hz
          · exact g2 h0 z hz
          · rw [List.mem_singleton.mp hz, (tieOf_lt hne).2.2]; exact hl.2 h0
      obtain ⟨w, w1, w2, _⟩ := at_in (xs := sh) (k := q) (by omega) (by omega)
      have z0 := Int.emod_nonneg w (show q ≠ 0 by omega)
      have z1 := Int.emod_lt_of_pos w hq0
      obtain ⟨to, s1, _, s3⟩ := at_in (xs := o) (k := w % q) z0 (by omega)
      rw [opt_b w1, chk_b hq0, opt_b s1, opt_b w1, chk_b (cdivW (by decide) (by decide))]
      by_cases c40 : w / 40 = 1
      · obtain ⟨to2, u1, _, u3⟩ := at_in (xs := o) (k := q - 1) (by omega) (by omega)
        rw [if_pos c40, opt_b u1, opt_b p1, opt_b p1]
        exact fin (q - 1) to2 (by omega) (by omega) u1 u3
      · rw [if_neg c40, opt_b p1, opt_b p1]
        exact fin (w % q) to z0 z1 s1 s3
    · rw [if_neg hq0]
      have hpe : pre = [] := List.length_eq_zero_iff.mp (by omega)
      have hts : ts = [] := by
        rcases g3 with ⟨_, e⟩ | g
        · exact e
        · have := g.len
          rw [hpe] at this
          simp at this
      refine ⟨ts, rfl, g1, g2, .inr ?_⟩
      rw [tk, hts, hpe]
      exact Grown.one ok
  · refine ⟨sortT ts, rfl, fun ws hw => ⟨o, ts, ?_, ?_, rfl⟩, fun z hz => g1 z (sortT_mem.mp hz), fun h0 z hz => g2 h0 z (sortT_mem.mp hz)⟩
    · rcases g3 with ⟨e, _⟩ | g
      · have : (enumL ns).length = 0 := by rw [e]; rfl
        rw [enumL_len] at this
        omega
      · rw [enumL_len, List.take_of_length_le (by omega)] at g
        exact g
    · show o.Perm (rangeL 0 (ws.length : Int))
      rw [hw]
      exact hp
theorem btree_ok (s : List Int) (most least : Int) (h1 : 1 ≤ most) (h2 : most ≤ 40) (l0 : -1000 ≤ least) (l1 : least ≤ 1000) : ∃ t, m_law_tree s most least = .ok t ∧ TreeOk t ∧ t.1.length ≤ 40 ∧ (∀ x ∈ t.1, x.natAbs < 2 ^ 99) ∧ (∀ z ∈ t.2, z.c.natAbs < 2 ^ 100) ∧ (0 ≤ least → ∀ z ∈ t.2, 0 ≤ z.c) := by
  obtain ⟨c0, e0⟩ := cell_ok s 0 (by decide)
  have fin : ∀ m : Int, 1 ≤ m → m ≤ 40 → ∃ t, (m_law_worths s m >>= fun r34 => m_law_ties s m least >>= fun r53 => (.ok (r34, r53) : M Tr)) = .ok t ∧ TreeOk t ∧ t.1.length ≤ 40 ∧ (∀ x ∈ t.1, x.natAbs < 2 ^ 99) ∧ (∀ z ∈ t.2, z.c.natAbs < 2 ^ 100) ∧ (0 ≤ least → ∀ z ∈ t.2, 0 ≤ z.c) := fun m m1 m2 => by
    obtain ⟨ws, w1, w2, w3⟩ := worths_ok s m (by omega) (by omega)
    obtain ⟨ts, t1, t2, t3, t4⟩ := ties_ok s m least m1 (by omega) l0 l1
    exact ⟨(ws, ts), by rw [bind_ok w1, bind_ok t1], t2 ws w2, by show ws.length ≤ 40; omega, w3, t3, t4⟩
  unfold m_law_tree
  have hm : 1 ≤ (if (9 : Int) < most then (9 : Int) else most) ∧ (if (9 : Int) < most then (9 : Int) else most) ≤ 40 := by
    by_cases c : (9 : Int) < most
    · rw [if_pos c]; omega
    · rw [if_neg c]; omega
  obtain ⟨q, hq⟩ : ∃ q, q = (if (9 : Int) < most then (9 : Int) else most) := ⟨_, rfl⟩
  rw [← hq] at hm ⊢
  have z0 := Int.emod_nonneg c0 (show q ≠ 0 by omega)
  have z1 := Int.emod_lt_of_pos c0 (show 0 < q by omega)
  rw [bind_ok e0, chk_b (by omega)]
  by_cases c9 : (9 : Int) < most
  · rw [if_pos c9, chk_b (cdivW (by decide) (by decide)), chk_b (by decide)]
    by_cases c3 : c0 / 16 % 8 = 3
    · rw [if_pos c3, chk_b (cdivW (by decide) (by decide)), chk_b (by omega), chk_b (cdivW (by decide) (by decide)), chk_b (by decide)]
      have y0 := Int.emod_nonneg (c0 / 4096) (show most - 9 ≠ 0 by omega)
      have y1 := Int.emod_lt_of_pos (c0 / 4096) (show 0 < most - 9 by omega)
      obtain ⟨m, b1, b2⟩ := atI_some (xs := [most, 10 + c0 / 4096 % (most - 9)]) (j := c0 / 128 % 2) (by omega) (by show c0 / 128 % 2 < ((2 : Nat) : Int); omega)
      have hm := List.mem_of_getElem? b2
      simp only [List.mem_cons, List.not_mem_nil, or_false] at hm
      rw [opt_b b1]
      exact fin m (by omega) (by omega)
    · rw [if_neg c3]
      exact fin _ (by omega) (by omega)
  · rw [if_neg c9]
    exact fin _ (by omega) (by omega)

/-! ### the order of the branches -/
theorem nr_nd {t : Tr} (ht : TreeOk t) (x : Int) : (nearOf t.2 x).Nodup := by
  unfold nearOf
  refine (sortT_perm _).nodup_iff.mpr ?_
  refine List.pairwise_filterMap.mpr ?_
  have h := List.pairwise_map.mp (tree_pairs ht)
  refine List.Pairwise.imp_of_mem ?_ h
  intro s u hs hu ne b eb b' eb' ebb
  have v1 := ht.tie s hs
  have v2 := ht.tie u hu
  subst ebb
  refine ne ?_
  unfold other at eb eb'
  by_cases a1 : s.a = x
  · rw [if_pos a1] at eb
    have eb := Option.some.inj eb
    by_cases a2 : u.a = x
    · rw [if_pos a2] at eb'
      have eb' := Option.some.inj eb'
      rw [a1, a2, eb, eb']
    · rw [if_neg a2] at eb'
      by_cases a3 : u.b = x
      · rw [if_pos a3] at eb'
        have eb' := Option.some.inj eb'
        omega
      · rw [if_neg a3] at eb'; cases eb'
  · rw [if_neg a1] at eb
    by_cases a3 : s.b = x
    · rw [if_pos a3] at eb
      have eb := Option.some.inj eb
      by_cases a2 : u.a = x
      · rw [if_pos a2] at eb'
        have eb' := Option.some.inj eb'
        omega
      · rw [if_neg a2] at eb'
        by_cases a4 : u.b = x
        · rw [if_pos a4] at eb'
          have eb' := Option.some.inj eb'
          rw [a3, a4, eb, eb']
        · rw [if_neg a4] at eb'; cases eb'
    · rw [if_neg a3] at eb; cases eb
theorem nr_sym {t : Tr} (ht : TreeOk t) {x y : Int} : y ∈ nearOf t.2 x ↔ x ∈ nearOf t.2 y := by
  rw [nearOf_mem fun z hz => (ht.tie z hz).2.1, nearOf_mem fun z hz => (ht.tie z hz).2.1]
  constructor
  · rintro ⟨z, hz, h⟩; exact ⟨z, hz, by omega⟩
  · rintro ⟨z, hz, h⟩; exact ⟨z, hz, by omega⟩
def brs (t : Tr) : List (Int × Int) := sortT ((lenOf t.2).map (·.1))
theorem brs_mem {t : Tr} (ht : TreeOk t) {p : Int × Int} : p ∈ brs t ↔ p.2 ∈ nearOf t.2 p.1 := by
  unfold brs
  rw [sortT_mem, nearOf_mem fun z hz => (ht.tie z hz).2.1]
  constructor
  · intro h
    obtain ⟨q, hq, e⟩ := List.mem_map.mp h
    obtain ⟨z, hz, h | h⟩ := lenOf_mem.mp hq
    · rw [h] at e; subst e; exact ⟨z, hz, .inl ⟨rfl, rfl⟩⟩
    · rw [h] at e; subst e; exact ⟨z, hz, .inr ⟨rfl, rfl⟩⟩
  · rintro ⟨z, hz, ⟨a, b⟩ | ⟨a, b⟩⟩
    · exact List.mem_map.mpr ⟨((z.a, z.b), z.c), lenOf_mem.mpr ⟨z, hz, .inl rfl⟩, Prod.ext a b⟩
    · exact List.mem_map.mpr ⟨((z.b, z.a), z.c), lenOf_mem.mpr ⟨z, hz, .inr rfl⟩, Prod.ext a b⟩
theorem brs_nd {t : Tr} (ht : TreeOk t) : (brs t).Nodup := (sortT_perm _).nodup_iff.mpr (lenOf_nd ht)
theorem brs_len {t : Tr} : (brs t).length = 2 * t.2.length := by unfold brs; rw [sortT_len, List.length_map, lenOf_len]
theorem merge_newT {β : Type} : ∀ {xs m : List ((Int × Int) × β)}, ((m ++ xs).map (·.1)).Nodup → xs.foldl (fun m p => dPut m p.1 p.2) m = m ++ xs
  | [], m, _ => by simp
  | x :: xs, m, h => by
    rw [List.foldl_cons]
    have hn : ∀ p ∈ m, p.1 ≠ x.1 := fun p hp e => by
      rw [List.map_append, List.map_cons, List.nodup_append] at h
      exact h.2.2 p.1 (List.mem_map.mpr ⟨p, hp, rfl⟩) x.1 List.mem_cons_self e
    rw [dPut_new hn, merge_newT (by rw [List.append_assoc]; exact h), List.append_assoc]
    rfl
theorem dPut_keys {β : Type} {xs : List ((Int × Int) × β)} {k : Int × Int} {y : β} (h : k ∈ xs.map (·.1)) : (dPut xs k y).map (·.1) = xs.map (·.1) := by
  unfold dPut
  obtain ⟨p, hp, e⟩ := List.mem_map.mp h
  rw [if_pos (List.any_eq_true.mpr ⟨p, hp, decide_eq_true e⟩), List.map_map]
  refine List.map_congr_left fun q _ => ?_
  show (if q.1 = k then (q.1, y) else q).1 = q.1
  by_cases z : q.1 = k
  · rw [if_pos z]
  · rw [if_neg z]
theorem dGet_map {β : Type} [Py β] {k j : Int × Int} {y : β} : ∀ xs : List ((Int × Int) × β), dGet (xs.map fun p => if p.1 = k then (p.1, y) else p) j = if j = k then (dGet xs j).map (fun _ => y) else dGet xs j
  | [] => by by_cases e : j = k <;> simp [dGet, e]
  | p :: xs => by
    rw [List.map_cons]
    by_cases e : p.1 = k
    · rw [if_pos e]
      by_cases e2 : p.1 = j
      · rw [dGet_pos (p := (p.1, y)) e2, dGet_pos e2, if_pos (e2.symm.trans e)]; rfl
      · rw [dGet_neg (p := (p.1, y)) e2, dGet_neg e2, dGet_map xs]
    · rw [if_neg e]
      by_cases e2 : p.1 = j
      · rw [dGet_pos e2, dGet_pos e2, if_neg (fun z => e (e2.trans z))]
      · rw [dGet_neg e2, dGet_neg e2, dGet_map xs]
theorem dGet_none {β : Type} [Py β] {xs : List ((Int × Int) × β)} {k : Int × Int} (h : ∀ p ∈ xs, p.1 ≠ k) : dGet xs k = none := by
  induction xs with
  | nil => rfl
  | cons p xs ih => rw [dGet_neg (h p List.mem_cons_self), ih fun q hq => h q (List.mem_cons_of_mem _ hq)]
theorem dGet_snoc {β : Type} [Py β] {k j : Int × Int} {y : β} : ∀ {xs : List ((Int × Int) × β)}, (∀ p ∈ xs, p.1 ≠ k) → dGet (xs ++ [(k, y)]) j = if j = k then some y else dGet xs j
  | [], _ => by
    by_cases e : j = k
    · rw [if_pos e, List.nil_append, dGet_pos (p := (k, y)) e.symm]
    · rw [if_neg e, List.nil_append, dGet_neg (p := (k, y)) (fun z => e z.symm)]
  | p :: xs, h => by
    rw [List.cons_append]
    by_cases e2 : p.1 = j
    · rw [dGet_pos e2, dGet_pos e2, if_neg (fun z => h p List.mem_cons_self (e2.trans z))]
    · rw [dGet_neg e2, dGet_neg e2, dGet_snoc fun q hq => h q (List.mem_cons_of_mem _ hq)]
theorem dGet_put {β : Type} [Py β] {xs : List ((Int × Int) × β)} {k j : Int × Int} {y : β} : dGet (dPut xs k y) j = if j = k then some y else dGet xs j := by
  unfold dPut
  by_cases h : (xs.any fun p => decide (p.1 = k)) = true
  · rw [if_pos h, dGet_map]
    by_cases e : j = k
    · rw [if_pos e, if_pos e]
      obtain ⟨p, hp, e2⟩ := List.any_eq_true.mp h
      have e2 := of_decide_eq_true e2
      have : dGet xs j ≠ none := by
        unfold dGet
        rw [ne_eq, Option.map_eq_none_iff, List.find?_eq_none]
        intro z
        exact z p hp (decide_eq_true (e2.trans e.symm))
      cases hh : dGet xs j with
      | none => exact (this hh).elim
      | some v => rfl
    · rw [if_neg e, if_neg e]
  · rw [if_neg h]
    refine dGet_snoc fun p hp e => h (List.any_eq_true.mpr ⟨p, hp, decide_eq_true e⟩)
/-- how many of the branches in (x, y) are still wanted, those of D being there -/
def need (t : Tr) (D : List (Int × Int)) (x y : Int) : Nat := ((nearOf t.2 y).filter fun c => decide (c ≠ x ∧ (y, c) ∉ D)).length
theorem need_zero {t : Tr} {D : List (Int × Int)} {x y : Int} : need t D x y = 0 ↔ ∀ c ∈ nearOf t.2 y, c ≠ x → (y, c) ∈ D := by
  unfold need
  rw [List.length_eq_zero_iff, List.filter_eq_nil_iff]
  constructor
  · intro h c hc hx
    exact Classical.byContradiction fun z => h c hc (decide_eq_true ⟨hx, z⟩)
  · intro h c hc z
    have z := of_decide_eq_true z
    exact z.2 (h c hc z.1)
theorem need_nil {t : Tr} (ht : TreeOk t) {x y : Int} (h : x ∈ nearOf t.2 y) : ((need t [] x y : Nat) : Int) = ((nearOf t.2 y).length : Int) - 1 := by
  have e : need t [] x y = ((nearOf t.2 y).erase x).length := by
    unfold need
    rw [(nr_nd ht y).erase_eq_filter]
    congr 2
    funext c
    simp [bne]
    by_cases z : c = x <;> simp [z]
  rw [e, List.length_erase_of_mem h]
  have := List.length_pos_of_mem h
  omega
theorem need_same {t : Tr} {D : List (Int × Int)} {a b x y : Int} (h : y ≠ a ∨ x = b) : need t (D ++ [(a, b)]) x y = need t D x y := by
  unfold need
  congr 1
  refine List.filter_congr fun c _ => ?_
  refine decide_eq_decide.mpr ?_
  rw [List.mem_append, List.mem_singleton]
  constructor
  · rintro ⟨h1, h2⟩; exact ⟨h1, fun z => h2 (.inl z)⟩
  · rintro ⟨h1, h2⟩
    refine ⟨h1, fun z => z.elim h2 fun z => ?_⟩
    injection z with z1 z2
    rcases h with h | h
    · exact h z1
    · exact h1 (z2.trans h.symm)
theorem filt_one {l : List Int} (nd : l.Nodup) {b : Int} (hb : b ∈ l) {p q : Int → Bool} (h1 : p b = true) (h2 : q b = false) (h : ∀ c ∈ l, c ≠ b → p c = q c) : (l.filter p).length = (l.filter q).length + 1 := by
  induction l with
  | nil => exact nomatch hb
  | cons x l ih =>
    obtain ⟨n1, n2⟩ := List.nodup_cons.mp nd
    by_cases e : x = b
    · subst e
      rw [List.filter_cons_of_pos h1, List.filter_cons_of_neg (by rw [h2]; decide), List.length_cons]
      rw [List.filter_congr (l := l) fun c hc => h c (List.mem_cons_of_mem _ hc) fun z => n1 (z ▸ hc)]
    · have hb' : b ∈ l := (List.mem_cons.mp hb).resolve_left fun z => e z.symm
      have i := ih n2 hb' fun c hc => h c (List.mem_cons_of_mem _ hc)
      have hx := h x List.mem_cons_self e
      by_cases px : p x = true
      · rw [List.filter_cons_of_pos px, List.filter_cons_of_pos (hx ▸ px), List.length_cons, List.length_cons, i]
      · rw [List.filter_cons_of_neg px, List.filter_cons_of_neg (hx ▸ px), i]
theorem need_less {t : Tr} (ht : TreeOk t) {D : List (Int × Int)} {a b x : Int} (hb : b ∈ nearOf t.2 a) (hx : x ≠ b) (hD : (a, b) ∉ D) : need t D x a = need t (D ++ [(a, b)]) x a + 1 := by
  unfold need
  refine filt_one (nr_nd ht a) hb (decide_eq_true ⟨fun z => hx z.symm, hD⟩) (decide_eq_false fun z => z.2 (by simp)) fun c _ hc => ?_
  refine decide_eq_decide.mpr ?_
  rw [List.mem_append, List.mem_singleton]
  constructor
  · rintro ⟨h1, h2⟩
    refine ⟨h1, fun z => z.elim h2 fun z => ?_⟩
    injection z with z1 z2
    exact hc z2
  · rintro ⟨h1, h2⟩; exact ⟨h1, fun z => h2 (.inl z)⟩
theorem take_app {a : Type} {l : List a} {n : Nat} (m : List a) (h : n ≤ l.length) : (l ++ m).take n = l.take n := by
  rw [List.take_append_of_le_length h]
/-- each branch stands behind those in it -/
def Behind (t : Tr) (found : List (Int × Int)) : Prop := ∀ (j : Nat) (p : Int × Int), found[j]? = some p → ∀ c ∈ nearOf t.2 p.2, c ≠ p.1 → (p.2, c) ∈ found.take j
theorem Behind.snoc {t : Tr} {found : List (Int × Int)} {q : Int × Int} {n : Nat} (h : Behind t found) (hn : n ≤ found.length) (hq : need t (found.take n) q.1 q.2 = 0) : Behind t (found ++ [q]) := by
  intro j p e c hc hx
  by_cases hj : j < found.length
  · rw [List.getElem?_append_left hj] at e
    rw [take_app _ (Nat.le_of_lt hj)]
    exact h j p e c hc hx
  · rw [List.getElem?_append_right (by omega)] at e
    have hj2 : j - found.length = 0 := by
      have := (List.getElem?_eq_some_iff.mp e).1
      simp at this
      omega
    rw [hj2] at e
    cases e
    have hj3 : j = found.length := by omega
    subst hj3
    rw [take_app _ (Nat.le_refl _), List.take_length]
    exact List.mem_of_mem_take (need_zero.mp hq c hc hx)
structure Ord (t : Tr) (D : List (Int × Int)) (left : List ((Int × Int) × Int)) (found : List (Int × Int)) (cnt : Int × Int → Nat) : Prop where
  nd : found.Nodup
  sub : ∀ p ∈ found, p ∈ brs t
  keys : left.map (·.1) = brs t
  get : ∀ p ∈ brs t, dGet left p = some ((cnt p : Nat) : Int)
  iff : ∀ p ∈ brs t, (p ∈ found ↔ cnt p = 0)
  bh : Behind t found

def turnO (a b : Int) : Int → (List ((Int × Int) × Int)) × (List (Int × Int)) → M ((List ((Int × Int) × Int)) × (List (Int × Int))) := fun (y201 : Int) (st212 : (List ((Int × Int) × Int)) × (List (Int × Int))) =>
  if y201 ≠ b then (
  opt (dGet st212.1 ((y201, a).1, (y201, a).2)) >>= fun y230 =>
  putD st212.1 ((y201, a).1, (y201, a).2) (y230 - (1 : Int)) >>= fun z243 =>
  opt (dGet z243 (y201, a)) >>= fun y253 =>
  if y253 = (0 : Int) then (
  appL st212.2 (y201, a) >>= fun _ =>
  .ok (z243, (st212.2 ++ [(y201, a)])))
  else (
  .ok (z243, st212.2)))
  else (
  .ok (st212.1, st212.2))
theorem putD_ok {β : Type} {xs : List ((Int × Int) × β)} {k : Int × Int} {y : β} (h : xs.length < 16777216) : putD xs k y = .ok (dPut xs k y) := by
  unfold putD
  rw [if_pos h]
theorem inner_ok {t : Tr} (ht : TreeOk t) (hn : t.1.length ≤ 100000) {a b : Int} (hb : b ∈ nearOf t.2 a) {n : Nat} {left : List ((Int × Int) × Int)} {found : List (Int × Int)} (hat : found[n]? = some (a, b))
    (I : Ord t (found.take n) left found fun p => need t (found.take n) p.1 p.2) :
    ∃ left' found', loopN (turnO a b) (nearOf t.2 a) (left, found) = .ok (left', found') ∧ found <+: found' ∧ Ord t (found'.take (n + 1)) left' found' fun p => need t (found'.take (n + 1)) p.1 p.2 := by
  have hlen := ht.len
  have hn1 : n < found.length := (List.getElem?_eq_some_iff.mp hat).1
  have hD' : found.take (n + 1) = found.take n ++ [(a, b)] := by
    rw [List.take_add_one, hat]; rfl
  have hnot : (a, b) ∉ found.take n := fun z => by
    obtain ⟨m, hm, e⟩ := List.getElem_of_mem z
    rw [List.length_take] at hm
    have e2 : found[m]? = some (a, b) := by rw [← List.getElem?_take_of_lt (show m < n by omega), List.getElem?_eq_getElem (by rw [List.length_take]; exact hm), e]
    have := (List.getElem?_inj (by omega) I.nd).mp (e2.trans hat.symm)
    omega
  have bl := brs_len (t := t)
  obtain ⟨st, e, hP⟩ := loopN_run (f := turnO a b) (all := nearOf t.2 a) (x := (left, found))
    (fun pre st => found <+: st.2 ∧ Ord t (found.take n) st.1 st.2 fun p => if p.2 = a ∧ p.1 ∈ pre then need t (found.take n ++ [(a, b)]) p.1 p.2 else need t (found.take n) p.1 p.2)
    ⟨List.prefix_refl _, { I with
      get := fun p hp => by rw [if_neg fun z => nomatch z.2]; exact I.get p hp
      iff := fun p hp => by rw [if_neg fun z => nomatch z.2]; exact I.iff p hp }⟩ fun pre c post st ea ⟨hpre, J⟩ => by
      obtain ⟨lf, fd⟩ := st
      have hc : c ∈ nearOf t.2 a := by rw [ea]; simp
      have hcp : c ∉ pre := fun z => by
        have nd := nr_nd ht a
        rw [ea, List.nodup_append] at nd
        exact nd.2.2 c z c List.mem_cons_self rfl
      have hbr : (c, a) ∈ brs t := (brs_mem ht).mpr ((nr_sym ht).mpr hc)
      have other : ∀ p : Int × Int, p ≠ (c, a) → (if p.2 = a ∧ p.1 ∈ pre ++ [c] then need t (found.take n ++ [(a, b)]) p.1 p.2 else need t (found.take n) p.1 p.2) = (if p.2 = a ∧ p.1 ∈ pre then need t (found.take n ++ [(a, b)]) p.1 p.2 else need t (found.take n) p.1 p.2) := fun p hp => by
        by_cases z : p.2 = a ∧ p.1 ∈ pre
        · rw [if_pos z, if_pos ⟨z.1, List.mem_append_left _ z.2⟩]
        · rw [if_neg z, if_neg]
          rintro ⟨z1, z2⟩
          rcases List.mem_append.mp z2 with z2 | z2
          · exact z ⟨z1, z2⟩
          · exact hp (Prod.ext (List.mem_singleton.mp z2) z1)
      have mine : (if ((c, a) : Int × Int).2 = a ∧ ((c, a) : Int × Int).1 ∈ pre ++ [c] then need t (found.take n ++ [(a, b)]) c a else need t (found.take n) c a) = need t (found.take n ++ [(a, b)]) c a := if_pos ⟨rfl, by simp⟩
      have mine0 : (if ((c, a) : Int × Int).2 = a ∧ ((c, a) : Int × Int).1 ∈ pre then need t (found.take n ++ [(a, b)]) c a else need t (found.take n) c a) = need t (found.take n) c a := if_neg fun z => hcp z.2
      by_cases hcb : c = b
      · refine ⟨(lf, fd), by unfold turnO; rw [if_neg fun z => z hcb], hpre, { J with get := fun p hp => ?_, iff := fun p hp => ?_ }⟩
        · by_cases z : p = (c, a)
          · subst z
            rw [mine, need_same (.inr hcb), ← mine0]
            exact J.get _ hp
          · rw [other p z]; exact J.get p hp
        · by_cases z : p = (c, a)
          · subst z
            rw [mine, need_same (.inr hcb), ← mine0]
            exact J.iff _ hp
          · rw [other p z]; exact J.iff p hp
      · have g0 : dGet lf (c, a) = some ((need t (found.take n) c a : Nat) : Int) := by rw [← mine0]; exact J.get _ hbr
        have hl := need_less ht hb hcb hnot
        have hz : ((need t (found.take n) c a : Nat) : Int) - 1 = ((need t (found.take n ++ [(a, b)]) c a : Nat) : Int) := by omega
        have hlf : lf.length = (brs t).length := by rw [← J.keys, List.length_map]
        have hni : (c, a) ∉ fd := fun z => by
          have := (J.iff _ hbr).mp z
          rw [mine0] at this
          omega
        have g1 : ∀ p, dGet (dPut lf (c, a) ((need t (found.take n ++ [(a, b)]) c a : Nat) : Int)) p = if p = (c, a) then some ((need t (found.take n ++ [(a, b)]) c a : Nat) : Int) else dGet lf p := fun p => dGet_put
        have k1 : (dPut lf (c, a) ((need t (found.take n ++ [(a, b)]) c a : Nat) : Int)).map (·.1) = brs t := by rw [dPut_keys (by rw [J.keys]; exact hbr), J.keys]
        have get : ∀ p ∈ brs t, dGet (dPut lf (c, a) ((need t (found.take n ++ [(a, b)]) c a : Nat) : Int)) p = some (((if p.2 = a ∧ p.1 ∈ pre ++ [c] then need t (found.take n ++ [(a, b)]) p.1 p.2 else need t (found.take n) p.1 p.2) : Nat) : Int) := fun p hp => by
          rw [g1]
          by_cases z : p = (c, a)
          · subst z; rw [if_pos rfl, mine]
          · rw [if_neg z, other p z]; exact J.get p hp
        have fl : fd.length ≤ (brs t).length := nd_sub_len J.nd J.sub
        have step : turnO a b c (lf, fd) = if ((need t (found.take n ++ [(a, b)]) c a : Nat) : Int) = 0 then .ok (dPut lf (c, a) ((need t (found.take n ++ [(a, b)]) c a : Nat) : Int), fd ++ [(c, a)]) else .ok (dPut lf (c, a) ((need t (found.take n ++ [(a, b)]) c a : Nat) : Int), fd) := by
          unfold turnO
          rw [if_pos hcb, opt_b (show dGet (lf, fd).1 (((c, a) : Int × Int).1, ((c, a) : Int × Int).2) = _ from g0), hz, bind_ok (putD_ok (show (lf, fd).1.length < 16777216 by show lf.length < _; omega)), opt_b (show dGet (dPut (lf, fd).1 (((c, a) : Int × Int).1, ((c, a) : Int × Int).2) _) (c, a) = _ from (g1 _).trans (if_pos rfl))]
          by_cases z : ((need t (found.take n ++ [(a, b)]) c a : Nat) : Int) = 0
          · rw [if_pos z, if_pos z, bind_ok (appL_ok (show (lf, fd).2.length < 16777216 by show fd.length < _; omega))]
          · rw [if_neg z, if_neg z]
        by_cases z : ((need t (found.take n ++ [(a, b)]) c a : Nat) : Int) = 0
        · refine ⟨(_, fd ++ [(c, a)]), step.trans (if_pos z), hpre.trans (List.prefix_append _ _), ?_⟩
          have z' : need t (found.take n ++ [(a, b)]) c a = 0 := by omega
          have hfl : found.length ≤ fd.length := hpre.length_le
          have htk : fd.take (n + 1) = found.take n ++ [(a, b)] := by
            rw [← hD']
            obtain ⟨r, rfl⟩ := hpre
            rw [take_app _ (by omega)]
          exact {
            nd := List.nodup_append.mpr ⟨J.nd, by simp, fun x hx y hy e => hni (by rw [List.mem_singleton] at hy; rw [← hy, ← e]; exact hx)⟩
            sub := fun p hp => by
              rcases List.mem_append.mp hp with hp | hp
              · exact J.sub p hp
              · rw [List.mem_singleton.mp hp]; exact hbr
            keys := k1
            get := get
            iff := fun p hp => by
              by_cases q : p = (c, a)
              · subst q; rw [mine]; exact ⟨fun _ => z', fun _ => by simp⟩
              · rw [other p q]
                exact ⟨fun h => (J.iff p hp).mp ((List.mem_append.mp h).resolve_right fun h => q (List.mem_singleton.mp h)), fun h => List.mem_append_left _ ((J.iff p hp).mpr h)⟩
            bh := J.bh.snoc (n := n + 1) (by omega) (by rw [htk]; exact z') }
        · refine ⟨(_, fd), step.trans (if_neg z), hpre, ?_⟩
          exact { J with
            keys := k1
            get := get
            iff := fun p hp => by
              by_cases q : p = (c, a)
              · subst q; rw [mine]
                exact ⟨fun h => (hni h).elim, fun h => (z (by omega)).elim⟩
              · rw [other p q]; exact J.iff p hp }
  obtain ⟨left', found'⟩ := st
  obtain ⟨hpre, J⟩ := hP
  have htk : found'.take (n + 1) = found.take n ++ [(a, b)] := by
    rw [← hD']
    obtain ⟨r, rfl⟩ := hpre
    rw [take_app _ (by omega)]
  have cn : ∀ p ∈ brs t, (if p.2 = a ∧ p.1 ∈ nearOf t.2 a then need t (found.take n ++ [(a, b)]) p.1 p.2 else need t (found.take n) p.1 p.2) = need t (found'.take (n + 1)) p.1 p.2 := fun p hp => by
    rw [htk]
    by_cases z : p.2 = a
    · rw [if_pos ⟨z, by rw [← z]; exact (nr_sym ht).mp ((brs_mem ht).mp hp)⟩]
    · rw [if_neg fun q => z q.1, need_same (.inl z)]
  exact ⟨left', found', e, hpre, { J with get := fun p hp => by rw [← cn p hp]; exact J.get p hp, iff := fun p hp => by rw [← cn p hp]; exact J.iff p hp }⟩
theorem orders_ok (t : Tr) (ht : TreeOk t) (hn : t.1.length ≤ 100000) : ∃ od, m_order_of (nearAll t.1.length t.2) (brs t) = .ok od ∧ od.Nodup ∧ (∀ p, p ∈ od ↔ p ∈ brs t) ∧ Behind t od := by
  have hlen := ht.len
  have bl := brs_len (t := t)
  obtain ⟨w, hw⟩ := weight_tree ht
  have rg : ∀ p ∈ brs t, (0 ≤ p.1 ∧ p.1 < (t.1.length : Int)) ∧ (0 ≤ p.2 ∧ p.2 < (t.1.length : Int)) := fun p hp => by
    obtain ⟨c, hc⟩ := (near_step ht).mp ((brs_mem ht).mp hp)
    have := step_rg ht hc
    exact ⟨this.1, this.2.1⟩
  have near_at : ∀ x : Int, 0 ≤ x → x < (t.1.length : Int) → L2.atI (nearAll t.1.length t.2) x = some (nearOf t.2 x) := fun x h0 h1 => nearAll_at h0 (by omega)
  unfold m_order_of
  rw [bind_ok (compS_pure (fun p => some ((p.1, p.2), (((nearOf t.2 p.2).length : Int) - (1 : Int)))) (by omega) fun p hp => by
    rw [opt_b (near_at p.2 (rg p hp).2.1 (rg p hp).2.2)])]
  rw [List.filterMap_eq_map']
  have e0 : mergeDT ((brs t).map fun p => ((p.1, p.2), (((nearOf t.2 p.2).length : Int) - (1 : Int)))) = (brs t).map fun p => ((p.1, p.2), (((nearOf t.2 p.2).length : Int) - (1 : Int))) := by
    unfold mergeDT
    rw [merge_newT (by rw [List.nil_append, List.map_map]; exact (List.map_id (brs t)).symm ▸ brs_nd ht)]
    rfl
  have k0 : ((brs t).map fun p => ((p.1, p.2), (((nearOf t.2 p.2).length : Int) - (1 : Int)))).map (·.1) = brs t := by rw [List.map_map]; exact List.map_id (brs t)
  have g0 : ∀ p ∈ brs t, dGet ((brs t).map fun p => ((p.1, p.2), (((nearOf t.2 p.2).length : Int) - (1 : Int)))) p = some ((need t [] p.1 p.2 : Nat) : Int) := fun p hp => by
    rw [need_nil ht ((nr_sym ht).mp ((brs_mem ht).mp hp))]
    exact dGet_mem (by rw [k0]; exact brs_nd ht) (List.mem_map.mpr ⟨p, hp, rfl⟩)
  rw [e0]
  rw [bind_ok (compS_pure (fun p => if need t [] p.1 p.2 = 0 then some p else none) (by omega) fun p hp => by
    show (opt (dGet ((brs t).map fun p => ((p.1, p.2), (((nearOf t.2 p.2).length : Int) - (1 : Int)))) p) >>= _) = _
    rw [opt_b (g0 p hp)]
    by_cases z : need t [] p.1 p.2 = 0
    · rw [if_pos z, if_pos (by omega)]
    · rw [if_neg z, if_neg (by omega)])]
  have ef : (brs t).filterMap (fun p => if need t [] p.1 p.2 = 0 then some p else none) = (brs t).filter fun p => decide (need t [] p.1 p.2 = 0) := by
    rw [← List.filterMap_eq_filter]
    refine fm_congr fun p _ => ?_
    by_cases z : need t [] p.1 p.2 = 0 <;> simp [z, Option.guard]
  rw [ef]
  have I0 : Ord t [] ((brs t).map fun p => ((p.1, p.2), (((nearOf t.2 p.2).length : Int) - (1 : Int)))) ((brs t).filter fun p => decide (need t [] p.1 p.2 = 0)) fun p => need t [] p.1 p.2 := {
    nd := (brs_nd ht).filter _
    sub := fun p hp => (List.mem_filter.mp hp).1
    keys := k0
    get := g0
    iff := fun p hp => by rw [List.mem_filter]; exact ⟨fun h => of_decide_eq_true h.2, fun h => ⟨hp, decide_eq_true h⟩⟩
    bh := fun j p e c hc hx => by
      have h := of_decide_eq_true (List.mem_filter.mp (List.mem_of_getElem? e)).2
      exact nomatch need_zero.mp h c hc hx }
  obtain ⟨st, e, hQ⟩ := whL_run (r := Unit) (b := fun (st162 : Int × (List ((Int × Int) × Int)) × (List (Int × Int))) =>
    if st162.1 < (st162.2.2.length : Int) then (
    opt (atI st162.2.2 st162.1) >>= fun y174 =>
    opt (atI (nearAll t.1.length t.2) y174.1) >>= fun y191 =>
    loopN (turnO y174.1 y174.2) y191 (st162.2.1, st162.2.2) >>= fun st280 =>
    .ok (.go ((st162.1 + (1 : Int)), st280.1, st280.2)))
    else (
    .ok (.stop (st162.1, st162.2.1, st162.2.2))))
    (fun st => ∃ n : Nat, st.1 = (n : Int) ∧ n ≤ st.2.2.length ∧ Ord t (st.2.2.take n) st.2.1 st.2.2 fun p => need t (st.2.2.take n) p.1 p.2)
    (fun st => (brs t).length - st.1.toNat)
    (fun st => Ord t st.2.2 st.2.1 st.2.2 fun p => need t st.2.2 p.1 p.2) (fun st hst => by
      obtain ⟨at_, left, found⟩ := st
      obtain ⟨n, h1, h2, I⟩ := hst
      have h1 : at_ = (n : Int) := h1
      have h2 : n ≤ found.length := h2
      have I : Ord t (found.take n) left found fun p => need t (found.take n) p.1 p.2 := I
      subst h1
      have fl : found.length ≤ (brs t).length := nd_sub_len I.nd I.sub
      by_cases z : n < found.length
      · left
        obtain ⟨⟨a, b⟩, hab⟩ : ∃ p, found[n]? = some p := ⟨found[n], List.getElem?_eq_getElem z⟩
        have hbr := I.sub _ (List.mem_of_getElem? hab)
        have hb := (brs_mem ht).mp hbr
        obtain ⟨left', found', e, hpre, J⟩ := inner_ok ht hn hb hab I
        have hfl := hpre.length_le
        refine ⟨((n : Int) + 1, left', found'), ?_, ⟨n + 1, rfl, (show n + 1 ≤ found'.length by omega), J⟩, show (brs t).length - ((n : Int) + 1).toNat < (brs t).length - ((n : Nat) : Int).toNat by omega⟩
        show (if ((n : Nat) : Int) < (found.length : Int) then _ else _) = _
        rw [if_pos (by omega), opt_b (show L2.atI found ((n : Nat) : Int) = some (a, b) by rw [atI_nat]; exact hab)]
        show (opt (atI (nearAll t.1.length t.2) a) >>= _) = _
        rw [opt_b (near_at a (rg _ hbr).1.1 (rg _ hbr).1.2)]
        show (loopN (turnO a b) (nearOf t.2 a) (left, found) >>= _) = _
        rw [bind_ok e]
      · right
        refine ⟨_, by show (if ((n : Nat) : Int) < (found.length : Int) then _ else _) = _; rw [if_neg (by omega)], ?_⟩
        have hn2 : n = found.length := by omega
        rw [hn2, List.take_length] at I
        exact I) 1000000 (0, (brs t).map (fun (p : Int × Int) => ((p.1, p.2), (((nearOf t.2 p.2).length : Int) - (1 : Int)))), (brs t).filter fun p => decide (need t [] p.1 p.2 = 0)) ⟨0, rfl, Nat.zero_le _, I0⟩ (show (brs t).length - (0 : Int).toNat < 1000000 by omega)
  obtain ⟨at_, left, found⟩ := st
  have J : Ord t found left found fun p => need t found p.1 p.2 := hQ
  refine ⟨found, ?_, J.nd, fun p => ⟨J.sub p, fun hp => ?_⟩, J.bh⟩
  · exact bind_ok e _
  · have all : ∀ (N : Nat) (p : Int × Int), p ∈ brs t → w p.1 p.2 ≤ N → p ∈ found := fun N => by
      induction N with
      | zero =>
        intro p hp hN
        have := (hw p.1 p.2 ((nr_sym ht).mp ((brs_mem ht).mp hp))).1
        omega
      | succ N ih =>
        intro p hp hN
        refine (J.iff p hp).mpr (need_zero.mpr fun c hc hx => ih (p.2, c) ((brs_mem ht).mpr hc) ?_)
        have h1 := (hw p.1 p.2 ((nr_sym ht).mp ((brs_mem ht).mp hp))).1
        have h2 := sumF_mem (f := w p.2) (List.mem_filter.mpr ⟨hc, decide_eq_true hx⟩ : c ∈ (nearOf t.2 p.2).filter fun c => decide (c ≠ p.1))
        show w p.2 c ≤ N
        omega
    exact all _ p hp (Nat.le_refl _)

/-! ### rows and seats by the program alone -/
def subs (t : Tr) (a b : Int) : List Int := (nearOf t.2 b).filter fun c => decide (c ≠ a)
/-- f tells the rows, g the seats -/
structure RP (t : Tr) (r : Rule) (f : Int → Int → List Int) (g : Int → Int) : Prop where
  need : m_need_rule r = .ok ()
  prog : ∀ a b l, Step t a b l → ∃ so own, m_row_with t r b ((subs t a b).map (f b)) = .ok so ∧ L2.atI t.1 b = some own ∧ m_over_tie r so own l = .ok (f a b)
  seat : ∀ p, 0 ≤ p → p < (t.1.length : Int) → ∃ so own, L2.atI t.1 p = some own ∧ m_row_with t r p ((nearOf t.2 p).map (f p)) = .ok so ∧ m_told_by r so own = .ok (g p)
theorem rows_known_ok (t : Tr) (ht : TreeOk t) (hn : t.1.length ≤ 100000) {r : Rule} {f : Int → Int → List Int} {g : Int → Int} (RF : RP t r f g) :
    ∃ rows, m_rows_known t r = .ok rows ∧ ∀ a b l, Step t a b l → dGet rows (a, b) = some (f a b) := by
  have hlen := ht.len
  have bl := brs_len (t := t)
  obtain ⟨od, o1, o2, o3, o4⟩ := orders_ok t ht hn
  have odl : od.length ≤ (brs t).length := nd_sub_len o2 fun p hp => (o3 p).mp hp
  unfold m_rows_known
  rw [bind_ok (tied_places_ok (t.1.length : Int) t.2 (by omega) (by omega) (by omega) ht.tie)]
  rw [show ((t.1.length : Int)).toNat = t.1.length from rfl]
  rw [bind_ok (lengths_ok t ht (by omega)), bind_ok (show m_every_branch t = .ok (brs t) by unfold m_every_branch; rw [bind_ok (lengths_ok t ht (by omega))]; rfl), bind_ok o1]
  obtain ⟨rows, e, h1, h2⟩ := loopN_run (f := fun (y89 : (Int × Int)) (st100 : (List ((Int × Int) × (List Int)))) =>
    opt (atI (nearAll t.1.length t.2) y89.2) >>= fun y122 =>
    compS (fun (y132 : Int) (st149 : Unit) =>
    if y132 ≠ y89.1 then (
    opt (dGet st100 (y89.2, y132)) >>= fun y163 =>
    .ok (some y163, ()))
    else (
    .ok (none, ()))) y122 () >>= fun q186 =>
    m_row_with t r y89.2 q186.1 >>= fun r192 =>
    opt (atI t.1 y89.2) >>= fun y205 =>
    opt (dGet (lenOf t.2) (y89.1, y89.2)) >>= fun y222 =>
    m_over_tie r r192 y205 y222 >>= fun r234 =>
    putD st100 ((y89.1, y89.2).1, (y89.1, y89.2).2) r234 >>= fun z268 =>
    .ok z268) (all := od) (x := []) (fun pre st => (∀ p ∈ pre, dGet st p = some (f p.1 p.2)) ∧ st.length ≤ pre.length) ⟨(fun _ h => nomatch h), Nat.le_refl _⟩ fun pre y post st ea ⟨h1, h2⟩ => by
      obtain ⟨a, b⟩ := y
      have hbr : (a, b) ∈ brs t := (o3 _).mp (by rw [ea]; simp)
      obtain ⟨l, hs⟩ := (near_step ht).mp ((brs_mem ht).mp hbr)
      have rg := (step_rg ht hs).2.1
      have hnl : (nearOf t.2 b).length ≤ t.2.length := by
        unfold nearOf
        rw [sortT_len]
        exact List.length_filterMap_le _ _
      have hod : od[pre.length]? = some (a, b) := by rw [ea, List.getElem?_append_right (Nat.le_refl _), Nat.sub_self]; rfl
      have htk : od.take pre.length = pre := by rw [ea]; simp
      have hb := o4 _ _ hod
      rw [htk] at hb
      obtain ⟨so, own, p1, p2, p3⟩ := RF.prog a b l hs
      have hpl : pre.length < od.length := (List.getElem?_eq_some_iff.mp hod).1
      refine ⟨dPut st (a, b) (f a b), ?_, fun p hp => ?_, ?_⟩
      · show (opt (atI (nearAll t.1.length t.2) b) >>= _) = _
        rw [opt_b (show L2.atI (nearAll t.1.length t.2) b = some (nearOf t.2 b) from nearAll_at rg.1 (by omega))]
        rw [bind_ok (compS_pure (fun c => if c ≠ a then some (f b c) else none) (by omega) fun c hc => by
          show (if c ≠ a then _ else _) = _
          by_cases z : c ≠ a
          · rw [if_pos z, if_pos z]
            show (opt (dGet st (b, c)) >>= _) = _
            rw [opt_b (h1 _ (hb c hc z))]
          · rw [if_neg z, if_neg z])]
        have ef : (nearOf t.2 b).filterMap (fun c => if c ≠ a then some (f b c) else none) = (subs t a b).map (f b) := by
          unfold subs
          rw [← List.filterMap_eq_map', List.filterMap_filter]
          refine fm_congr fun c _ => ?_
          by_cases z : c ≠ a
          · rw [if_pos z, if_pos (decide_eq_true z)]
          · rw [if_neg z, if_neg (by simpa using z)]
        rw [ef]
        show (m_row_with t r b _ >>= _) = _
        rw [bind_ok p1]
        show (opt (atI t.1 b) >>= _) = _
        rw [opt_b p2]
        show (opt (dGet (lenOf t.2) (a, b)) >>= _) = _
        rw [opt_b (step_len ht hs), bind_ok p3]
        show (putD st (a, b) (f a b) >>= _) = _
        rw [bind_ok (putD_ok (by omega))]
      · rw [dGet_put]
        rcases List.mem_append.mp hp with hp | hp
        · by_cases z : p = (a, b)
          · subst z; rw [if_pos rfl]
          · rw [if_neg z]; exact h1 p hp
        · rw [List.mem_singleton.mp hp, if_pos rfl]
      · rw [List.length_append, List.length_singleton]
        unfold dPut
        split
        · rw [List.length_map]; omega
        · rw [List.length_append, List.length_singleton]; omega
  refine ⟨rows, (bind_ok e _).trans rfl, fun a b l hs => h1 (a, b) ((o3 _).mpr ((brs_mem ht).mpr ((near_step ht).mpr ⟨l, hs⟩)))⟩
theorem enumL_mem {b : Type} {xs : List b} {y : Int × b} (h : y ∈ enumL xs) : 0 ≤ y.1 ∧ y.1 < (xs.length : Int) ∧ xs[y.1.toNat]? = some y.2 := by
  unfold enumL at h
  obtain ⟨q, hq, e⟩ := List.mem_map.mp h
  obtain ⟨h1, h2, h3⟩ := List.mem_zipIdx hq
  subst e
  show (0 : Int) ≤ (q.2 : Int) ∧ (q.2 : Int) < (xs.length : Int) ∧ xs[((q.2 : Int)).toNat]? = some q.1
  have h2 : q.2 < xs.length := by omega
  refine ⟨by omega, by omega, ?_⟩
  rw [Int.toNat_natCast, List.getElem?_eq_getElem h2, h3]
  simp
theorem seats_by_ok (t : Tr) (ht : TreeOk t) (hn : t.1.length ≤ 100000) {r : Rule} {f : Int → Int → List Int} {g : Int → Int} (RF : RP t r f g) {rows : List ((Int × Int) × List Int)} (hr : ∀ a b l, Step t a b l → dGet rows (a, b) = some (f a b)) :
    m_seats_by t r rows = .ok ((rangeL 0 (t.1.length : Int)).map g) := by
  have hlen := ht.len
  unfold m_seats_by
  rw [bind_ok (tied_places_ok (t.1.length : Int) t.2 (by omega) (by omega) (by omega) ht.tie)]
  rw [show ((t.1.length : Int)).toNat = t.1.length from rfl]
  obtain ⟨st, e, h⟩ := loopN_run (f := fun (y43 : (Int × Int)) (st54 : (List Int)) =>
    opt (atI (nearAll t.1.length t.2) y43.1) >>= fun y88 =>
    compS (fun (y98 : Int) (st115 : Unit) =>
    opt (dGet rows (y43.1, y98)) >>= fun y133 =>
    .ok (some y133, ())) y88 () >>= fun q156 =>
    m_row_with t r y43.1 q156.1 >>= fun r162 =>
    m_told_by r r162 y43.2 >>= fun r170 =>
    appL st54 r170 >>= fun _ =>
    .ok (st54 ++ [r170])) (all := enumL t.1) (x := []) (fun pre st => st = pre.map fun y => g y.1) rfl fun pre y post st ea es => by
      obtain ⟨p, own⟩ := y
      have hy : (p, own) ∈ enumL t.1 := by rw [ea]; simp
      obtain ⟨p0, p1, hp⟩ := enumL_mem hy
      have p0 : 0 ≤ p := p0
      have p1 : p < (t.1.length : Int) := p1
      obtain ⟨so, own', q1, q2, q3⟩ := RF.seat p p0 p1
      obtain ⟨ow, w1, w2⟩ := atI_some (xs := t.1) (j := p) p0 p1
      have : own' = own := by
        have h1 : ow = own := Option.some.inj (w2.symm.trans hp)
        exact (Option.some.inj (q1.symm.trans w1)).trans h1
      subst this
      have hnl : (nearOf t.2 p).length ≤ t.2.length := by
        unfold nearOf
        rw [sortT_len]
        exact List.length_filterMap_le _ _
      have hpl : pre.length < (enumL t.1).length := by rw [ea]; simp
      rw [enumL_len] at hpl
      refine ⟨st ++ [g p], ?_, by rw [es, List.map_append]; rfl⟩
      show (opt (atI (nearAll t.1.length t.2) p) >>= _) = _
      rw [opt_b (show L2.atI (nearAll t.1.length t.2) p = some (nearOf t.2 p) from nearAll_at p0 (by omega))]
      rw [bind_ok (compS_pure (fun c => some (f p c)) (by omega) fun c hc => by
        obtain ⟨lc, hsc⟩ := (near_step ht).mp hc
        show (opt (dGet rows (p, c)) >>= _) = _
        rw [opt_b (hr p c lc hsc)])]
      rw [List.filterMap_eq_map']
      show (m_row_with t r p _ >>= _) = _
      rw [bind_ok q2]
      show (m_told_by r so own' >>= _) = _
      rw [bind_ok q3, bind_ok (appL_ok (by rw [es, List.length_map]; omega))]
  rw [bind_ok e, h]
  have he : (enumL t.1).map (fun y => g y.1) = (rangeL 0 (t.1.length : Int)).map g := by
    unfold enumL rangeL
    rw [List.map_map, List.map_map]
    have h1 : (t.1.zipIdx.map fun p => g ((p.2 : Nat) : Int)) = (t.1.zipIdx.map Prod.snd).map fun (i : Nat) => g (i : Int) := by rw [List.map_map]; rfl
    show (t.1.zipIdx.map fun p => g ((p.2 : Nat) : Int)) = _
    rw [h1, List.zipIdx_map_snd, ← List.range_eq_range']
    rw [show ((t.1.length : Int) - 0).toNat = t.1.length by omega]
    refine List.map_congr_left fun i _ => ?_
    show g (i : Int) = g (0 + (i : Int))
    rw [Int.zero_add]
  rw [he]
theorem all_seats_rp (t : Tr) (ht : TreeOk t) (hn : t.1.length ≤ 100000) {r : Rule} {f : Int → Int → List Int} {g : Int → Int} (RF : RP t r f g) : m_all_seats t r = .ok ((rangeL 0 (t.1.length : Int)).map g) := by
  obtain ⟨rows, h1, h2⟩ := rows_known_ok t ht hn RF
  unfold m_all_seats
  rw [bind_ok RF.need, bind_ok h1, bind_ok (seats_by_ok t ht hn RF h2)]
theorem near_len (t : Tr) (b : Int) : (nearOf t.2 b).length ≤ t.2.length := by
  unfold nearOf
  rw [sortT_len]
  exact List.length_filterMap_le _ _

/-! ### the part that hangs at a neighbour -/
inductive Cn (t : Tr) (p : Int) : Int → Int → Prop
  | me (x : Int) : Cn t p x x
  | on {x y z l : Int} : Cn t p x y → Step t y z l → z ≠ p → Cn t p x z
theorem Cn.trans {t : Tr} {p x y z : Int} (h : Cn t p x y) (h2 : Cn t p y z) : Cn t p x z := by
  induction h2 with
  | me => exact h
  | on _ hs hz ih => exact Cn.on ih hs hz
theorem Cn.ne {t : Tr} {p x y : Int} (h : Cn t p x y) (hx : x ≠ p) : y ≠ p := by
  cases h with
  | me => exact hx
  | on _ _ hz => exact hz
theorem Cn.sym {t : Tr} {p x y : Int} (h : Cn t p x y) (hx : x ≠ p) : Cn t p y x := by
  induction h with
  | me => exact Cn.me _
  | on h1 hs hz ih => exact (Cn.on (Cn.me _) (stp_sym hs) (h1.ne hx)).trans ih
theorem Cn.more {t t' : Tr} {p x y : Int} (h : Cn t p x y) (hm : ∀ a b l, Step t a b l → Step t' a b l) : Cn t' p x y := by
  induction h with
  | me => exact Cn.me _
  | on _ hs hz ih => exact Cn.on ih (hm _ _ _ hs) hz
theorem Cn.way {t : Tr} {p x y : Int} (h : Cn t p x y) : ∃ ps d, Way t x ps y d := by
  induction h with
  | me => exact ⟨[], 0, Way.one _⟩
  | on _ hs _ ih =>
    obtain ⟨ps, d, hw⟩ := ih
    exact ⟨_, _, way_snoc hw hs⟩
theorem Way.more {t t' : Tr} {x y d : Int} {ps : List Int} (h : Way t x ps y d) (hm : ∀ a b l, Step t a b l → Step t' a b l) : Way t' x ps y d := by
  induction h with
  | one x => exact Way.one x
  | cons hs _ ih => exact Way.cons (hm _ _ _ hs) ih
theorem Way.cn {t : Tr} {p x y d : Int} {ps : List Int} (h : Way t x ps y d) (hp : p ∉ ps) : Cn t p x y := by
  induction h with
  | one x => exact Cn.me x
  | cons hs _ ih => exact (Cn.on (Cn.me _) hs fun e => hp (by rw [← e]; exact List.mem_cons_self)).trans (ih fun z => hp (List.mem_cons_of_mem _ z))

/-! ### the part that hangs at b, from a on -/
section
variable {t : Tr} (ht : TreeOk t)
include ht
theorem cn_path {a b z : Int} (h : Cn t a b z) (hb : b ≠ a) : ∃ ps d, Way t b ps z d ∧ (b :: ps).Nodup ∧ a ∉ b :: ps := by
  have hw : ∃ ps d, Way t b ps z d ∧ a ∉ b :: ps := by
    induction h with
    | me => exact ⟨[], 0, Way.one _, fun z => hb (List.mem_singleton.mp z).symm⟩
    | on h1 hs hz ih =>
      obtain ⟨ps, d, hw, ha⟩ := ih
      refine ⟨_, _, way_snoc hw hs, fun z => ?_⟩
      rw [← List.cons_append] at z
      rcases List.mem_append.mp z with z | z
      · exact ha z
      · exact hz (List.mem_singleton.mp z).symm
  obtain ⟨ps, d, hw, ha⟩ := hw
  obtain ⟨qs, e, h1, nd, hm⟩ := way_short hw
  exact ⟨qs, e, h1, nd, fun z => ha (hm a z)⟩
/-- a way to a place tied to b that does not lead over it at once leads away -/
theorem no_back {a b c l z d : Int} {ps : List Int} (hs : Step t a b l) (hc : c ≠ a) (hw : Way t c ps z d) (hbc : ∃ m, Step t b c m) (nd : (b :: c :: ps).Nodup) : a ∉ c :: ps := fun ha => by
  obtain ⟨m, hbc⟩ := hbc
  obtain ⟨qs, e, h1, rs, h2⟩ := way_pre hw ha
  rw [h2] at nd
  have w1 : Way t b (c :: qs) a (m + e) := Way.cons hbc h1
  have hab := (step_rg ht hs).2.2
  have n1 : (b :: c :: qs).Nodup := by
    rw [← List.cons_append, ← List.cons_append] at nd
    exact (List.nodup_append.mp nd).1
  have e1 := (way_uniq ht (Way.cons (stp_sym hs) (Way.one a)) w1 (List.nodup_cons.mpr ⟨fun z => hab (List.mem_singleton.mp z).symm, by simp⟩) n1).1
  exact hc (List.cons.inj e1).1.symm
theorem cn_split {a b l z : Int} (hs : Step t a b l) : Cn t a b z ↔ z = b ∨ ∃ c ∈ subs t a b, Cn t b c z := by
  have hab := (step_rg ht hs).2.2
  constructor
  · intro h
    obtain ⟨ps, d, hw, nd, ha⟩ := cn_path ht h hab.symm
    cases hw with
    | one => exact .inl rfl
    | @cons _ c _ m e qs hs2 hw2 =>
      have nd := List.nodup_cons.mp nd
      refine .inr ⟨c, List.mem_filter.mpr ⟨(near_step ht).mpr ⟨m, hs2⟩, decide_eq_true fun e => ha (by rw [← e]; simp)⟩, hw2.cn fun z => nd.1 (List.mem_cons_of_mem _ z)⟩
  · rintro (e | ⟨c, hc, h⟩)
    · rw [e]; exact Cn.me b
    · obtain ⟨hc1, hc2⟩ := List.mem_filter.mp hc
      have hca := of_decide_eq_true hc2
      obtain ⟨m, hbc⟩ := (near_step ht).mp hc1
      obtain ⟨ps, d, hw, nd, hb⟩ := cn_path ht h (step_rg ht hbc).2.2.symm
      have na := no_back ht hs hca hw ⟨m, hbc⟩ (List.nodup_cons.mpr ⟨hb, nd⟩)
      exact (Way.cons hbc hw).cn na
theorem cn_dist {D : Int → Int → Int} (hD : ∀ x y, 0 ≤ x → x < (t.1.length : Int) → 0 ≤ y → y < (t.1.length : Int) → Dist t x y (D x y)) {a b l z : Int} (hs : Step t a b l) (h : Cn t a b z) : (0 ≤ z ∧ z < (t.1.length : Int)) ∧ z ≠ a ∧ D a z = l + D b z := by
  have rg := step_rg ht hs
  obtain ⟨ps, d, hw, nd, ha⟩ := cn_path ht h rg.2.2.symm
  have rz := way_rg ht hw rg.2.1.1 rg.2.1.2
  refine ⟨rz, fun e => ha (by rw [← e]; exact way_mem hw), ?_⟩
  rw [dist_uniq ht (hD b z rg.2.1.1 rg.2.1.2 rz.1 rz.2) ⟨ps, hw, nd⟩]
  exact dist_uniq ht (hD a z rg.1.1 rg.1.2 rz.1 rz.2) ⟨b :: ps, Way.cons hs hw, List.nodup_cons.mpr ⟨ha, nd⟩⟩
theorem cn_apart {b c c' z : Int} (hc : c ∈ nearOf t.2 b) (hc' : c' ∈ nearOf t.2 b) (h : Cn t b c z) (h' : Cn t b c' z) : c = c' := by
  obtain ⟨m, hs⟩ := (near_step ht).mp hc
  obtain ⟨m', hs'⟩ := (near_step ht).mp hc'
  obtain ⟨ps, d, hw, nd, hb⟩ := cn_path ht h (step_rg ht hs).2.2.symm
  obtain ⟨ps', d', hw', nd', hb'⟩ := cn_path ht h' (step_rg ht hs').2.2.symm
  have e := (way_uniq ht (Way.cons hs hw) (Way.cons hs' hw') (List.nodup_cons.mpr ⟨hb, nd⟩) (List.nodup_cons.mpr ⟨hb', nd'⟩)).1
  exact (List.cons.inj e).1
theorem cn_all {p z : Int} (p0 : 0 ≤ p) (p1 : p < (t.1.length : Int)) (z0 : 0 ≤ z) (z1 : z < (t.1.length : Int)) (h : z ≠ p) : ∃ c ∈ nearOf t.2 p, Cn t p c z := by
  obtain ⟨d, ps, hw, nd⟩ := dist_all ht p0 p1 z z0 z1
  cases hw with
  | one => exact (h rfl).elim
  | @cons _ q _ l d' qs hs hw2 =>
    have nd := List.nodup_cons.mp nd
    exact ⟨q, (near_step ht).mpr ⟨_, hs⟩, hw2.cn fun z => nd.1 (List.mem_cons_of_mem _ z)⟩
end
open Classical in
/-- the places of it -/
noncomputable def partL (t : Tr) (a b : Int) : List Int := (rangeL 0 (t.1.length : Int)).filter fun z => decide (Cn t a b z)
theorem partL_nd (t : Tr) (a b : Int) : (partL t a b).Nodup := (rangeL_nodup _ _).filter _
theorem partL_len (t : Tr) (a b : Int) : (partL t a b).length ≤ t.1.length := by
  unfold partL
  refine Nat.le_trans (List.length_filter_le _ _) ?_
  rw [rangeL_length]
  omega
section
variable {t : Tr} (ht : TreeOk t)
include ht
theorem partL_mem {a b l z : Int} (hs : Step t a b l) : z ∈ partL t a b ↔ Cn t a b z := by
  obtain ⟨D, hD⟩ := dist_fun ht
  unfold partL
  rw [List.mem_filter, rangeL_mem]
  exact ⟨fun h => @of_decide_eq_true _ (Classical.propDecidable _) h.2, fun h => ⟨(cn_dist ht hD hs h).1, @decide_eq_true _ (Classical.propDecidable _) h⟩⟩
theorem flat_parts_nd {b : Int} : ∀ {cs : List Int}, cs.Nodup → (∀ c ∈ cs, c ∈ nearOf t.2 b) → (cs.flatMap (partL t b)).Nodup ∧ ∀ z, z ∈ cs.flatMap (partL t b) ↔ ∃ c ∈ cs, Cn t b c z
  | [], _, _ => ⟨by simp, fun z => by simp⟩
  | c :: cs, nd, hc => by
    obtain ⟨n1, n2⟩ := List.nodup_cons.mp nd
    obtain ⟨i1, i2⟩ := flat_parts_nd n2 fun x hx => hc x (List.mem_cons_of_mem _ hx)
    obtain ⟨m, hs⟩ := (near_step ht).mp (hc c List.mem_cons_self)
    rw [List.flatMap_cons]
    refine ⟨List.nodup_append.mpr ⟨partL_nd t b c, i1, fun u hu v hv e => ?_⟩, fun z => ?_⟩
    · subst e
      obtain ⟨c', hc', h'⟩ := (i2 u).mp hv
      have := cn_apart ht (hc c List.mem_cons_self) (hc c' (List.mem_cons_of_mem _ hc')) ((partL_mem ht hs).mp hu) h'
      exact n1 (by rw [this]; exact hc')
    · rw [List.mem_append, partL_mem ht hs, i2]
      constructor
      · rintro (h | ⟨c', h1, h2⟩)
        · exact ⟨c, List.mem_cons_self, h⟩
        · exact ⟨c', List.mem_cons_of_mem _ h1, h2⟩
      · rintro ⟨c', h1, h2⟩
        rcases List.mem_cons.mp h1 with e | e
        · exact .inl (by rw [← e]; exact h2)
        · exact .inr ⟨c', e, h2⟩
theorem subs_nd (a b : Int) : (subs t a b).Nodup := (nr_nd ht b).filter _
theorem partL_perm {a b l : Int} (hs : Step t a b l) : (partL t a b).Perm (b :: (subs t a b).flatMap (partL t b)) := by
  obtain ⟨D, hD⟩ := dist_fun ht
  have hsub : ∀ c ∈ subs t a b, c ∈ nearOf t.2 b := fun c hc => (List.mem_filter.mp hc).1
  obtain ⟨n1, n2⟩ := flat_parts_nd ht (subs_nd ht a b) hsub
  refine (List.perm_ext_iff_of_nodup (partL_nd t a b) (List.nodup_cons.mpr ⟨fun h => ?_, n1⟩)).mpr fun z => ?_
  · obtain ⟨c, hc, h2⟩ := (n2 b).mp h
    obtain ⟨m, hs2⟩ := (near_step ht).mp (hsub c hc)
    exact (cn_dist ht hD hs2 h2).2.1 rfl
  · rw [partL_mem ht hs, cn_split ht hs, List.mem_cons, n2]
theorem all_perm {p : Int} (p0 : 0 ≤ p) (p1 : p < (t.1.length : Int)) : (rangeL 0 (t.1.length : Int)).Perm (p :: (nearOf t.2 p).flatMap (partL t p)) := by
  obtain ⟨D, hD⟩ := dist_fun ht
  obtain ⟨n1, n2⟩ := flat_parts_nd ht (nr_nd ht p) fun c hc => hc
  refine (List.perm_ext_iff_of_nodup (rangeL_nodup _ _) (List.nodup_cons.mpr ⟨fun h => ?_, n1⟩)).mpr fun z => ?_
  · obtain ⟨c, hc, h2⟩ := (n2 p).mp h
    obtain ⟨m, hs2⟩ := (near_step ht).mp hc
    exact (cn_dist ht hD hs2 h2).2.1 rfl
  · rw [rangeL_mem, List.mem_cons, n2]
    constructor
    · intro h
      by_cases e : z = p
      · exact .inl e
      · exact .inr (cn_all ht p0 p1 h.1 h.2 e)
    · rintro (e | ⟨c, hc, h2⟩)
      · rw [e]; exact ⟨p0, p1⟩
      · obtain ⟨m, hs2⟩ := (near_step ht).mp hc
        exact (cn_dist ht hD hs2 h2).1
end

/-! ### the row down a branch, a seat, one by one -/
theorem row_down_rp (t : Tr) (ht : TreeOk t) (hn : t.1.length ≤ 100000) {r : Rule} {f : Int → Int → List Int} {g : Int → Int} (RF : RP t r f g) {w : Int → Int → Nat} (hw : ∀ a b, a ∈ nearOf t.2 b → w a b = 1 + sumF ((nearOf t.2 b).filter fun c => decide (c ≠ a)) (w b) ∧ w a b ≤ t.1.length) :
    ∀ (k : Nat) (a b l : Int), Step t a b l → w a b ≤ k → m_row_down k t r (nearAll t.1.length t.2) (lenOf t.2) (a, b) = .ok (f a b)
  | 0, a, b, l, hs, h => by
    have := (hw a b ((near_step ht).mpr ⟨l, stp_sym hs⟩)).1
    omega
  | k + 1, a, b, l, hs, h => by
    have hlen := ht.len
    have rg := (step_rg ht hs).2.1
    have nl := near_len t b
    have hab := (hw a b ((near_step ht).mpr ⟨l, stp_sym hs⟩)).1
    obtain ⟨so, own, p1, p2, p3⟩ := RF.prog a b l hs
    unfold m_row_down
    rw [opt_b (show L2.atI (nearAll t.1.length t.2) b = some (nearOf t.2 b) from nearAll_at rg.1 (by omega))]
    refine compS_pureB (fun c => if c ≠ a then some (f b c) else none) (by omega) (fun c hc => ?_) ?_
    · show (if c ≠ a then _ else _) = _
      by_cases z : c ≠ a
      · obtain ⟨lc, hsc⟩ := (near_step ht).mp hc
        have := sumF_mem (l := (nearOf t.2 b).filter fun c => decide (c ≠ a)) (f := w b) (List.mem_filter.mpr ⟨hc, decide_eq_true z⟩)
        rw [if_pos z, if_pos z]
        show (m_row_down k t r (nearAll t.1.length t.2) (lenOf t.2) (b, c) >>= _) = _
        rw [bind_ok (row_down_rp t ht hn RF hw k b c lc hsc (by omega))]
      · rw [if_neg z, if_neg z]
    · have ef : (nearOf t.2 b).filterMap (fun c => if c ≠ a then some (f b c) else none) = (subs t a b).map (f b) := by
        unfold subs
        rw [← List.filterMap_eq_map', List.filterMap_filter]
        refine fm_congr fun c _ => ?_
        by_cases z : c ≠ a
        · rw [if_pos z, if_pos (decide_eq_true z)]
        · rw [if_neg z, if_neg (by simpa using z)]
      rw [ef]
      dsimp only
      rw [bind_ok p1, opt_b p2, opt_b (step_len ht hs), bind_ok p3]
theorem seat_worth_rp (t : Tr) (ht : TreeOk t) (hn : t.1.length ≤ 60) {r : Rule} {f : Int → Int → List Int} {g : Int → Int} (RF : RP t r f g) {p : Int} (p0 : 0 ≤ p) (p1 : p < (t.1.length : Int)) : m_seat_worth t r p = .ok (g p) := by
  have hlen := ht.len
  obtain ⟨w, hw⟩ := weight_tree ht
  obtain ⟨so, own, q1, q2, q3⟩ := RF.seat p p0 p1
  have nl := near_len t p
  unfold m_seat_worth
  rw [bind_ok RF.need, bind_ok (need_place_ok t p p0 p1), bind_ok (tied_places_ok (t.1.length : Int) t.2 (by omega) (by omega) (by omega) ht.tie)]
  rw [show ((t.1.length : Int)).toNat = t.1.length from rfl]
  rw [bind_ok (lengths_ok t ht (by omega)), opt_b (show L2.atI (nearAll t.1.length t.2) p = some (nearOf t.2 p) from nearAll_at p0 (by omega))]
  refine compS_mapB (f p) (by omega) (fun c hc => ?_) ?_
  · obtain ⟨lc, hsc⟩ := (near_step ht).mp hc
    have := (hw p c ((near_step ht).mpr ⟨lc, stp_sym hsc⟩)).2
    show (m_row_down 60 t r (nearAll t.1.length t.2) (lenOf t.2) (p, c) >>= _) = _
    rw [bind_ok (row_down_rp t ht (by omega) RF hw 60 p c lc hsc (by omega))]
  · dsimp only
    rw [bind_ok q2, opt_b q1, bind_ok q3]

theorem range_map_at {b : Type} (f : Int → b) {n : Nat} {x : Int} (x0 : 0 ≤ x) (x1 : x < (n : Int)) : ((rangeL 0 (n : Int)).map f)[x.toNat]? = some (f x) := by
  unfold rangeL
  rw [List.map_map, List.getElem?_map, List.getElem?_range (by omega)]
  show some (f (0 + ((x.toNat : Nat) : Int))) = _
  rw [show (0 : Int) + ((x.toNat : Nat) : Int) = x by omega]
theorem range_map_get {b : Type} (f : Int → b) {n : Nat} {x : Int} (x0 : 0 ≤ x) (x1 : x < (n : Int)) : L2.atI ((rangeL 0 (n : Int)).map f) x = some (f x) := atI_of x0 (range_map_at f x0 x1)

/-! ### all places from a seat on, each behind the one it hangs at -/
def Pa (t : Tr) (s y : Int) (a : Option Int) : Prop := (y = s ∧ a = none) ∨ ∃ x l ps d, a = some x ∧ Way t s ps x d ∧ Step t x y l ∧ (s :: (ps ++ [y])).Nodup
theorem way_end {t : Tr} {s x d : Int} {ps : List Int} (h : Way t s ps x d) : ∀ {y e : Int}, Way t s ps y e → x = y := by
  induction h with
  | one s =>
    intro y e h2
    cases h2
    rfl
  | cons hs hw ih =>
    intro y e h2
    cases h2 with
    | cons hs2 hw2 => exact ih hw2
theorem Pa.uniq {t : Tr} (ht : TreeOk t) {s y : Int} {a b : Option Int} (h : Pa t s y a) (h2 : Pa t s y b) : a = b := by
  rcases h with ⟨e, ha⟩ | ⟨x, l, ps, d, ha, hw, hs, nd⟩ <;> rcases h2 with ⟨e2, hb⟩ | ⟨x2, l2, qs, d2, hb, hw2, hs2, nd2⟩
  · rw [ha, hb]
  · exact ((List.nodup_cons.mp nd2).1 (by rw [← e]; simp)).elim
  · exact ((List.nodup_cons.mp nd).1 (by rw [← e2]; simp)).elim
  · have e := (way_uniq ht (way_snoc hw hs) (way_snoc hw2 hs2) nd nd2).1
    have e := (List.append_inj' e rfl).1
    subst e
    rw [ha, hb, way_end hw hw2]
theorem Pa.way {t : Tr} {s y : Int} {a : Option Int} (h : Pa t s y a) : ∃ ps d, Way t s ps y d ∧ (s :: ps).Nodup := by
  rcases h with ⟨e, _⟩ | ⟨x, l, ps, d, _, hw, hs, nd⟩
  · subst e
    exact ⟨[], 0, Way.one _, by simp⟩
  · exact ⟨_, _, way_snoc hw hs, nd⟩
theorem Pa.next {t : Tr} (ht : TreeOk t) {s x y l : Int} {a : Option Int} (h : Pa t s x a) (hs : Step t x y l) (hy : some y ≠ a) : Pa t s y (some x) := by
  obtain ⟨ps, d, hw, nd⟩ := h.way
  by_cases hm : y ∈ s :: ps
  · obtain ⟨qs, rs, e, f, h1, h2, h3, _⟩ := way_split hw hm
    have hne := (step_rg ht hs).2.2
    rw [h3, ← List.cons_append] at nd
    obtain ⟨n1, n2, n3⟩ := List.nodup_append.mp nd
    have hyq := way_mem h1
    have nr : (y :: rs).Nodup := List.nodup_cons.mpr ⟨fun z => n3 y hyq y z rfl, n2⟩
    have e1 := (way_uniq ht (Way.cons (stp_sym hs) (Way.one x)) h2 (by
      refine List.nodup_cons.mpr ⟨fun z => hne (List.mem_singleton.mp z).symm, by simp⟩) nr).1
    subst e1
    have hp : Pa t s x (some y) := .inr ⟨y, l, qs, e, rfl, h1, stp_sym hs, nd⟩
    exact (hy (Pa.uniq ht hp h)).elim
  · refine .inr ⟨x, l, ps, d, rfl, hw, hs, ?_⟩
    rw [← List.cons_append]
    exact List.nodup_append.mpr ⟨nd, by simp, fun u hu v hv e => hm (by rw [List.mem_singleton.mp hv] at e; rw [← e]; exact hu)⟩
structure Hg (t : Tr) (s : Int) (at_ : Int) (fs : List (Int × Option Int)) : Prop where
  nd : (fs.map (·.1)).Nodup
  pa : ∀ z ∈ fs, Pa t s z.1 z.2
  hd : fs[0]? = some (s, none)
  up : ∀ (i : Nat) (y x : Int), fs[i]? = some (y, some x) → ∃ (j : Nat) (b : Option Int), j < i ∧ (j : Int) < at_ ∧ fs[j]? = some (x, b)
  cl : ∀ i : Nat, (i : Int) < at_ → ∀ (x : Int) (a : Option Int), fs[i]? = some (x, a) → ∀ y l, Step t x y l → y ∈ fs.map (·.1)
  a0 : 0 ≤ at_
  a1 : at_ ≤ (fs.length : Int)
theorem Pa.rg {t : Tr} (ht : TreeOk t) {s y : Int} {a : Option Int} (h : Pa t s y a) (s0 : 0 ≤ s) (s1 : s < (t.1.length : Int)) : 0 ≤ y ∧ y < (t.1.length : Int) := by
  obtain ⟨ps, d, hw, _⟩ := h.way
  exact way_rg ht hw s0 s1
theorem Hg.len {t : Tr} (ht : TreeOk t) {s a : Int} {fs : List (Int × Option Int)} (h : Hg t s a fs) (s0 : 0 ≤ s) (s1 : s < (t.1.length : Int)) : fs.length ≤ t.1.length := by
  have := nd_sub_len (m := rangeL 0 (t.1.length : Int)) h.nd fun x hx => by
    obtain ⟨z, hz, rfl⟩ := List.mem_map.mp hx
    exact rangeL_mem.mpr ((h.pa z hz).rg ht s0 s1)
  rw [rangeL_length, List.length_map] at this
  omega
theorem nd_key {fs : List (Int × Option Int)} (nd : (fs.map (·.1)).Nodup) {i j : Nat} {x : Int} {a b : Option Int} (h : fs[i]? = some (x, a)) (h2 : fs[j]? = some (x, b)) : i = j :=
  nd_ix nd (x := x) (by rw [List.getElem?_map, h]; rfl) (by rw [List.getElem?_map, h2]; rfl)
structure HungOk (t : Tr) (s : Int) (fs : List (Int × Option Int)) : Prop where
  nd : (fs.map (·.1)).Nodup
  pa : ∀ z ∈ fs, Pa t s z.1 z.2
  hd : fs[0]? = some (s, none)
  up : ∀ (i : Nat) (y x : Int), fs[i]? = some (y, some x) → ∃ (j : Nat) (b : Option Int), j < i ∧ fs[j]? = some (x, b)
  all : ∀ y, y ∈ fs.map (·.1) ↔ 0 ≤ y ∧ y < (t.1.length : Int)
  len : fs.length = t.1.length
theorem hung_ok (t : Tr) (ht : TreeOk t) (hn : t.1.length ≤ 100000) {s : Int} (s0 : 0 ≤ s) (s1 : s < (t.1.length : Int)) : ∃ fs, m_hung_from t s = .ok fs ∧ HungOk t s fs := by
  have hlen := ht.len
  unfold m_hung_from
  refine whL_runB t.1.length (fun m st => Hg t s st.1 st.2 ∧ (m : Int) + st.1 = (t.1.length : Int)) (fun st => Hg t s st.1 st.2 ∧ st.1 = (st.2.length : Int)) (fun m ⟨a, fs⟩ ⟨h, hm⟩ => ?_) ⟨?_, ?_⟩ (by omega) (fun ⟨a, fs⟩ ⟨h, ha⟩ => ⟨fs, rfl, ?_⟩)
  · have h : Hg t s a fs := h
    have hm : (m : Int) + a = (t.1.length : Int) := hm
    have h0 := h.a0
    have h1 := h.a1
    have hl := h.len ht s0 s1
    dsimp only
    by_cases c : a < (fs.length : Int)
    · refine .inl ?_
      obtain ⟨⟨x, ab⟩, x1, x2⟩ := atI_some (xs := fs) (j := a) h0 c
      have hx := List.mem_of_getElem? x2
      have px : Pa t s x ab := h.pa (x, ab) hx
      have rx := px.rg ht s0 s1
      have nl := nearOf_len t.2 x
      obtain ⟨L, hL⟩ : ∃ L, L = (nearOf t.2 x).filter fun y => decide (some y ≠ ab) := ⟨_, rfl⟩
      have mL : ∀ y, y ∈ L ↔ (∃ l, Step t x y l) ∧ some y ≠ ab := fun y => by
        rw [hL, List.mem_filter, near_step ht]
        exact ⟨fun z => ⟨z.1, of_decide_eq_true z.2⟩, fun z => ⟨z.1, decide_eq_true z.2⟩⟩
      have lL : L.length ≤ t.2.length := by rw [hL]; exact Nat.le_trans (List.length_filter_le _ _) nl
      have hc : (nearOf t.2 x).filterMap (fun y => if some y ≠ ab then some (y, some x) else none) = L.map fun y => (y, some x) := by
        rw [hL]
        generalize nearOf t.2 x = l
        induction l with
        | nil => rfl
        | cons y l ih =>
          by_cases c : some y ≠ ab
          · rw [List.filterMap_cons_some (f := fun y => if some y ≠ ab then some (y, some x) else none) (show (if some y ≠ ab then some (y, some x) else none) = some (y, some x) from if_pos c), List.filter_cons_of_pos (p := fun y => decide (some y ≠ ab)) (show decide (some y ≠ ab) = true from decide_eq_true c), List.map_cons, ih]
          · rw [List.filterMap_cons_none (f := fun y => if some y ≠ ab then some (y, some x) else none) (show (if some y ≠ ab then some (y, some x) else none) = none from if_neg c), List.filter_cons_of_neg (p := fun y => decide (some y ≠ ab)) (show ¬ decide (some y ≠ ab) = true from fun z => c (of_decide_eq_true z)), ih]
      have new : ∀ y ∈ L, y ∉ fs.map (·.1) := fun y hy hk => by
        obtain ⟨⟨l, hs⟩, hya⟩ := (mL y).mp hy
        obtain ⟨⟨y', b⟩, hz, e⟩ := List.mem_map.mp hk
        have e : y' = y := e
        subst e
        obtain ⟨i, hi⟩ := List.mem_iff_getElem?.mp hz
        have hb := Pa.uniq ht (h.pa _ hz) (px.next ht hs hya)
        have hb : b = some x := hb
        subst hb
        obtain ⟨j, b2, j1, j2, j3⟩ := h.up i y' x hi
        have := nd_key h.nd j3 x2
        omega
      have km : (L.map fun y => (y, some x)).map (·.1) = L := by
        rw [List.map_map]
        exact List.map_id' L
      have g : Hg t s (a + 1) (fs ++ L.map fun y => (y, some x)) := {
        nd := by
          rw [List.map_append, km]
          exact List.nodup_append.mpr ⟨h.nd, by rw [hL]; exact (nr_nd ht x).filter _, fun u hu v hv e => new v hv (by rw [← e]; exact hu)⟩
        pa := fun z hz => by
          rcases List.mem_append.mp hz with hz | hz
          · exact h.pa z hz
          · obtain ⟨y, hy, rfl⟩ := List.mem_map.mp hz
            obtain ⟨⟨l, hs⟩, hya⟩ := (mL y).mp hy
            exact px.next ht hs hya
        hd := by
          have := (List.getElem?_eq_some_iff.mp h.hd).1
          rw [List.getElem?_append_left this]
          exact h.hd
        up := fun i y u hi => by
          by_cases ci : i < fs.length
          · rw [List.getElem?_append_left ci] at hi
            obtain ⟨j, b, j1, j2, j3⟩ := h.up i y u hi
            refine ⟨j, b, j1, by omega, ?_⟩
            rw [List.getElem?_append_left (by omega)]
            exact j3
          · rw [List.getElem?_append_right (by omega)] at hi
            obtain ⟨w, _, e⟩ := List.mem_map.mp (List.mem_of_getElem? hi)
            have e2 : x = u := Option.some.inj (congrArg Prod.snd e)
            refine ⟨a.toNat, ab, by omega, by omega, ?_⟩
            rw [List.getElem?_append_left (by omega), x2, e2]
        cl := fun i hi u ub hu y l hs => by
          rw [List.map_append, km]
          rw [List.getElem?_append_left (by omega)] at hu
          by_cases ci : (i : Int) < a
          · exact List.mem_append_left _ (h.cl i ci u ub hu y l hs)
          · have : i = a.toNat := by omega
            rw [this, x2] at hu
            have hu := Option.some.inj hu
            have e1 : x = u := congrArg Prod.fst hu
            rw [← e1] at hs
            by_cases k1 : some y = ab
            · rw [← k1] at x2
              obtain ⟨j, b, _, _, j3⟩ := h.up a.toNat x y x2
              exact List.mem_append_left _ (List.mem_map.mpr ⟨(y, b), List.mem_of_getElem? j3, rfl⟩)
            · exact List.mem_append_right _ ((mL y).mpr ⟨⟨l, hs⟩, k1⟩)
        a0 := by omega
        a1 := by rw [List.length_append]; omega }
      refine ⟨(a + 1, fs ++ L.map fun y => (y, some x)), m - 1, by omega, ?_, g, by show ((m - 1 : Nat) : Int) + (a + 1) = _; omega⟩
      rw [if_pos c, opt_b x1]
      dsimp only
      rw [bind_ok (tied_to_ok t ht (by omega) x rx.1 rx.2)]
      refine compS_pureB (fun y => if some y ≠ ab then some (y, some x) else none) (by omega) (fun y hy => ?_) ?_
      · by_cases c1 : some y ≠ ab
        · rw [if_pos c1, if_pos c1]
        · rw [if_neg c1, if_neg c1]
      · rw [hc]
        dsimp only
        rw [chk_b (by rw [List.length_map]; omega)]
    · refine .inr ⟨(a, fs), by rw [if_neg c], h, by show a = (fs.length : Int); omega⟩
  · exact {
      nd := by simp
      pa := fun z hz => by rw [List.mem_singleton.mp hz]; exact .inl ⟨rfl, rfl⟩
      hd := rfl
      up := fun i y x hi => by
        have hi : ([(s, none)] : List (Int × Option Int))[i]? = some (y, some x) := hi
        have := List.mem_singleton.mp (List.mem_of_getElem? hi)
        exact nomatch congrArg Prod.snd this
      cl := fun i hi => by have hi : (i : Int) < 0 := hi; omega
      a0 := Int.le_refl 0
      a1 := by show (0 : Int) ≤ ((1 : Nat) : Int); decide }
  · show (t.1.length : Int) + 0 = _
    omega
  · have h : Hg t s a fs := h
    have ha : a = (fs.length : Int) := ha
    have hs : s ∈ fs.map (·.1) := List.mem_map.mpr ⟨(s, none), List.mem_of_getElem? h.hd, rfl⟩
    have hc : ∀ {x y l : Int}, x ∈ fs.map (·.1) → Step t x y l → y ∈ fs.map (·.1) := fun {x y l} hx hst => by
      obtain ⟨⟨x', b⟩, hz, e⟩ := List.mem_map.mp hx
      have e : x' = x := e
      subst e
      obtain ⟨i, hi⟩ := List.mem_iff_getElem?.mp hz
      have := (List.getElem?_eq_some_iff.mp hi).1
      exact h.cl i (by omega) x' b hi y l hst
    have all : ∀ y, y ∈ fs.map (·.1) ↔ 0 ≤ y ∧ y < (t.1.length : Int) := fun y => ⟨fun hy => by
      obtain ⟨z, hz, rfl⟩ := List.mem_map.mp hy
      exact (h.pa z hz).rg ht s0 s1, fun hy => tree_all ht (fun y => y ∈ fs.map (·.1)) (fun z hz => ⟨fun q => hc q (show Step t z.a z.b z.c from ⟨z, hz, .inl ⟨rfl, rfl⟩, rfl⟩), fun q => hc q (show Step t z.b z.a z.c from ⟨z, hz, .inr ⟨rfl, rfl⟩, rfl⟩)⟩) s s0 s1 hs y hy.1 hy.2⟩
    refine ⟨h.nd, h.pa, h.hd, fun i y x hi => ?_, all, ?_⟩
    · obtain ⟨j, b, j1, _, j3⟩ := h.up i y x hi
      exact ⟨j, b, j1, j3⟩
    · have hp : (fs.map (·.1)).Perm (rangeL 0 (t.1.length : Int)) := (List.perm_ext_iff_of_nodup h.nd (rangeL_nodup _ _)).mpr fun y => (all y).trans rangeL_mem.symm
      have := hp.length_eq
      rw [List.length_map, rangeL_length] at this
      omega
/-! ### how far all places are from a seat -/

theorem mxI_some {xs : List Int} (h : xs ≠ []) : ∃ m, mxI xs = some m := by
  cases e : mxI xs with
  | none => exact (h (mxI_none e)).elim
  | some m => exact ⟨m, rfl⟩

theorem merge_newS {β : Type} : ∀ {xs ac : List (Str × β)}, ((ac ++ xs).map (·.1)).Nodup → xs.foldl (fun acc p => dPut acc p.1 p.2) ac = ac ++ xs
  | [], ac, _ => by simp
  | x :: xs, ac, h => by
    rw [List.foldl_cons]
    have hn : ∀ p ∈ ac, p.1 ≠ x.1 := fun p hp e => by
      rw [List.map_append, List.map_cons, List.nodup_append] at h
      exact h.2.2 p.1 (List.mem_map.mpr ⟨p, hp, rfl⟩) x.1 List.mem_cons_self e
    rw [dPut_new hn, merge_newS (by rw [List.append_assoc]; exact h), List.append_assoc]
    rfl

/-! ### sums, rules of any shape, by the program alone -/
theorem comp2 {i c : Type} {f : i → Unit → M (Option c × Unit)} {a b : i} {va vb : c} (ha : f a () = .ok (some va, ())) (hb : f b () = .ok (some vb, ())) : compS f [a, b] () = .ok ([va, vb], ()) := by
  unfold compS
  rw [chk_b (show [a, b].length < 16777216 by show 2 < 16777216; decide)]
  show (nox (f a ()) >>= _) = _
  rw [ha]
  show (nox (f b ()) >>= _) = _
  rw [hb]
  rfl
theorem s_no : ¬ ("own" : Str) = ("number" : Str) := by decide +kernel
theorem s_nt : ¬ ("tie" : Str) = ("number" : Str) := by decide +kernel
theorem s_ns : ¬ ("so" : Str) = ("number" : Str) := by decide +kernel
theorem s_nm : ¬ ("more" : Str) = ("number" : Str) := by decide +kernel
theorem s_to : ¬ ("tie" : Str) = ("own" : Str) := by decide +kernel
theorem s_so : ¬ ("so" : Str) = ("own" : Str) := by decide +kernel
theorem s_mo : ¬ ("more" : Str) = ("own" : Str) := by decide +kernel
theorem s_st : ¬ ("so" : Str) = ("tie" : Str) := by decide +kernel
theorem s_mt : ¬ ("more" : Str) = ("tie" : Str) := by decide +kernel
theorem s_ms : ¬ ("more" : Str) = ("so" : Str) := by decide +kernel
section
variable {own tie : Int} {so more : List Int}
def OpW (w : Str) : Prop := w = "plus" ∨ w = "less" ∨ w = "times" ∨ w = "most" ∨ w = "least"
theorem op_sum {d : Nat} {w : Str} {a b : Sm} {va vb : Int} (hw : OpW w) (ha : m_sum_at d a own tie so more = .ok va) (hb : m_sum_at d b own tie so more = .ok vb) :
    m_sum_at (d + 1) (.two w a b) own tie so more = (if w = ("plus" : Str) then .ok (va + vb) else if w = ("less" : Str) then .ok (va - vb) else if w = ("times" : Str) then (chk (CMulW va vb) >>= fun _ => .ok (va * vb)) else if w = ("most" : Str) then .ok (if vb > va then vb else va) else .ok (if vb < va then vb else va)) := by
  have h1 : ¬ w = ("number" : Str) ∧ ¬ w = ("own" : Str) ∧ ¬ w = ("tie" : Str) ∧ ¬ w = ("so" : Str) ∧ ¬ w = ("more" : Str) := by
    rcases hw with e | e | e | e | e <;> subst e <;> decide +kernel
  unfold m_sum_at
  rw [if_neg (show ¬ Sm.word (.two w a b) = _ from h1.1), if_neg (show ¬ Sm.word (.two w a b) = _ from h1.2.1), if_neg (show ¬ Sm.word (.two w a b) = _ from h1.2.2.1), if_neg (show ¬ Sm.word (.two w a b) = _ from h1.2.2.2.1), if_neg (show ¬ Sm.word (.two w a b) = _ from h1.2.2.2.2)]
  rw [opt_b (show Sm.two? (.two w a b) = some (a, b) from rfl)]
  rw [bind_ok (comp2 (va := va) (vb := vb) (by show (m_sum_at d a own tie so more >>= _) = _; rw [bind_ok ha]) (by show (m_sum_at d b own tie so more >>= _) = _; rw [bind_ok hb]))]
  rfl
end
/-! ### sums of any words, and which of them may stand -/
def Lf (x : Sm) : Prop := (∃ n : Int, x = .num "number" n) ∨ x = .nam "own" ∨ x = .nam "tie" ∨ (∃ k : Int, x = .num "so" k) ∨ ∃ k : Int, x = .num "more" k
def Sh : Nat → Sm → Prop
  | 0, _ => False
  | d + 1, x => Lf x ∨ ∃ w a b, x = .two w a b ∧ OpW w ∧ Sh d a ∧ Sh d b
theorem sh_up : ∀ {d e : Nat} {x : Sm}, Sh d x → d ≤ e → Sh e x
  | 0, _, _, h, _ => h.elim
  | d + 1, 0, _, _, l => absurd l (by omega)
  | d + 1, e + 1, x, h, l => by
    rcases h with h | ⟨w, a, b, z, hw, ha, hb⟩
    · exact .inl h
    · exact .inr ⟨w, a, b, z, hw, sh_up ha (by omega), sh_up hb (by omega)⟩
def lfOk (may : List Str) (many : Int) : Sm → Bool
  | .num w k => decide (w = ("number" : Str)) || (decide (w ∈ may) && decide (0 ≤ k) && decide (k < many))
  | .nam w => decide (w ∈ may)
  | .two _ _ _ => false
def mayB (may : List Str) (many : Int) : Sm → Bool
  | .two _ a b => mayB may many a && mayB may many b
  | .num w k => lfOk may many (.num w k)
  | .nam w => lfOk may many (.nam w)
theorem mayB_num {may : List Str} {many : Int} {w : Str} {k : Int} : mayB may many (.num w k) = (decide (w = ("number" : Str)) || (decide (w ∈ may) && decide (0 ≤ k) && decide (k < many))) := rfl
theorem may_lf {may : List Str} {many : Int} {x : Sm} (h : Lf x) (n : Nat) : m_may_stand (n + 1) x ⟨may⟩ many = .ok (mayB may many x) := by
  unfold m_may_stand
  rcases h with ⟨k, e⟩ | e | e | ⟨k, e⟩ | ⟨k, e⟩
  · subst e
    rw [if_pos (show Sm.word (.num "number" k) = ("number" : Str) from rfl)]
    rw [mayB_num, decide_eq_true rfl, Bool.true_or]
  · subst e
    rw [if_neg (show ¬ Sm.word (.nam "own") = ("number" : Str) from s_no), if_pos (show Sm.word (.nam "own") ∈ ([("own" : Str), "tie"] : List Str) from List.mem_cons_self)]
    rfl
  · subst e
    rw [if_neg (show ¬ Sm.word (.nam "tie") = ("number" : Str) from s_nt), if_pos (show Sm.word (.nam "tie") ∈ ([("own" : Str), "tie"] : List Str) from List.mem_cons_of_mem _ List.mem_cons_self)]
    rfl
  · subst e
    rw [if_neg (show ¬ Sm.word (.num "so" k) = ("number" : Str) from s_ns), if_neg (show ¬ Sm.word (.num "so" k) ∈ ([("own" : Str), "tie"] : List Str) from fun z => by
      rcases List.mem_cons.mp z with z | z
      · exact s_so z
      · exact s_st (List.mem_singleton.mp z)), if_pos (show Sm.word (.num "so" k) ∈ ([("so" : Str), "more"] : List Str) from List.mem_cons_self)]
    have e : mayB may many (.num "so" k) = (decide (("so" : Str) ∈ may) && decide (0 ≤ k) && decide (k < many)) := by
      rw [mayB_num, decide_eq_false s_ns, Bool.false_or]
    rw [e]
    by_cases hm : ("so" : Str) ∈ may
    · rw [if_pos (show Sm.word (.num "so" k) ∈ may from hm), opt_b (show Sm.int? (.num "so" k) = some k from rfl), decide_eq_true hm, Bool.true_and]
      by_cases h0 : 0 ≤ k
      · rw [if_pos h0, decide_eq_true h0, Bool.true_and]
      · rw [if_neg h0, decide_eq_false h0, Bool.false_and]
    · rw [if_neg (show ¬ Sm.word (.num "so" k) ∈ may from hm), decide_eq_false hm, Bool.false_and, Bool.false_and]
  · subst e
    rw [if_neg (show ¬ Sm.word (.num "more" k) = ("number" : Str) from s_nm), if_neg (show ¬ Sm.word (.num "more" k) ∈ ([("own" : Str), "tie"] : List Str) from fun z => by
      rcases List.mem_cons.mp z with z | z
      · exact s_mo z
      · exact s_mt (List.mem_singleton.mp z)), if_pos (show Sm.word (.num "more" k) ∈ ([("so" : Str), "more"] : List Str) from List.mem_cons_of_mem _ List.mem_cons_self)]
    have e : mayB may many (.num "more" k) = (decide (("more" : Str) ∈ may) && decide (0 ≤ k) && decide (k < many)) := by
      rw [mayB_num, decide_eq_false s_nm, Bool.false_or]
    rw [e]
    by_cases hm : ("more" : Str) ∈ may
    · rw [if_pos (show Sm.word (.num "more" k) ∈ may from hm), opt_b (show Sm.int? (.num "more" k) = some k from rfl), decide_eq_true hm, Bool.true_and]
      by_cases h0 : 0 ≤ k
      · rw [if_pos h0, decide_eq_true h0, Bool.true_and]
      · rw [if_neg h0, decide_eq_false h0, Bool.false_and]
    · rw [if_neg (show ¬ Sm.word (.num "more" k) ∈ may from hm), decide_eq_false hm, Bool.false_and, Bool.false_and]
theorem may_val {may : List Str} {many : Int} : ∀ (n d : Nat) (x : Sm), d ≤ n → Sh d x → m_may_stand n x ⟨may⟩ many = .ok (mayB may many x)
  | _, 0, _, _, h => h.elim
  | 0, d + 1, _, l, _ => absurd l (by omega)
  | n + 1, d + 1, x, l, h => by
    rcases h with h | ⟨w, a, b, e, hw, ha, hb⟩
    · exact may_lf h n
    · subst e
      have h1 : ¬ w = ("number" : Str) ∧ ¬ w ∈ ([("own" : Str), "tie"] : List Str) ∧ ¬ w ∈ ([("so" : Str), "more"] : List Str) := by
        rcases hw with e | e | e | e | e <;> subst e <;> decide +kernel
      unfold m_may_stand
      rw [if_neg (show ¬ Sm.word (.two w a b) = _ from h1.1), if_neg (show ¬ Sm.word (.two w a b) ∈ ([("own" : Str), "tie"] : List Str) from h1.2.1), if_neg (show ¬ Sm.word (.two w a b) ∈ ([("so" : Str), "more"] : List Str) from h1.2.2)]
      rw [opt_b (show Sm.two? (.two w a b) = some (a, b) from rfl)]
      show (m_may_stand n a ⟨may⟩ many >>= _) = _
      rw [bind_ok (may_val n d a (by omega) ha)]
      show _ = Except.ok (mayB may many a && mayB may many b)
      by_cases z : mayB may many a = true
      · rw [if_pos z, opt_b (show Sm.two? (.two w a b) = some (a, b) from rfl)]
        show (m_may_stand n b ⟨may⟩ many >>= _) = _
        rw [bind_ok (may_val n d b (by omega) hb), z, Bool.true_and]
      · rw [if_neg z, Bool.eq_false_iff.mpr z, Bool.false_and]
/-- loops that end where a test fails -/
theorem loopM_test {i r : Type} {f : i → Unit → M (Fl Unit r)} {z : r} (p : i → Bool) : ∀ {xs : List i}, (∀ y ∈ xs, f y () = if p y = true then .ok (.nx ()) else .ok (.rt z)) → loopM f xs () = if xs.all p = true then .ok (.nx ()) else .ok (.rt z)
  | [], _ => rfl
  | x :: xs, h => by
    have h1 := h x List.mem_cons_self
    have h2 := loopM_test p (fun y hy => h y (List.mem_cons_of_mem _ hy))
    show (f x () >>= _) = _
    rw [h1, List.all_cons]
    by_cases e : p x = true
    · rw [if_pos e, e, Bool.true_and, ← h2]
      rfl
    · rw [if_neg e, Bool.eq_false_iff.mpr e, Bool.false_and, if_neg Bool.false_ne_true]
      rfl
structure RSh (r : Rule) : Prop where
  la : r.a.length ≤ 1000
  lb : r.b.length ≤ 1000
  lc : r.c.length ≤ 1000
  sa : ∀ x ∈ r.a, Sh 10 x
  sb : ∀ x ∈ r.b, Sh 10 x
  sc : ∀ x ∈ r.c, Sh 10 x
  sd : Sh 10 r.d
abbrev mB : List Str := ["own"]
abbrev mO : List Str := ["own", "tie", "more"]
abbrev mJ : List Str := ["own", "so", "more"]
abbrev mT : List Str := ["own", "so"]
def sumsB (r : Rule) : Bool := r.a.all (mayB mB r.a.length) && r.b.all (mayB mO r.a.length) && r.c.all (mayB mJ r.a.length) && mayB mT r.a.length r.d
def ruleB (r : Rule) : Bool := decide (1 ≤ r.a.length ∧ r.a.length ≤ 3 ∧ r.b.length = r.a.length ∧ r.c.length = r.a.length) && sumsB r
theorem is_rule_val {r : Rule} (R : RSh r) : m_is_rule r = .ok (ruleB r) := by
  have h1 := R.la
  have h2 := R.lb
  have h3 := R.lc
  unfold m_is_rule ruleB
  by_cases c1 : (1 : Int) ≤ (r.a.length : Int)
  · rw [if_pos c1]
    by_cases c2 : (r.a.length : Int) ≤ 3
    · rw [if_pos c2]
      by_cases c3 : (r.b.length : Int) = (r.a.length : Int)
      · rw [if_neg (fun z => z c3)]
        by_cases c4 : (r.c.length : Int) = (r.a.length : Int)
        · rw [if_neg (fun z => z c4), decide_eq_true (show 1 ≤ r.a.length ∧ r.a.length ≤ 3 ∧ r.b.length = r.a.length ∧ r.c.length = r.a.length by omega), Bool.true_and]
          have one : ∀ (xs : List Sm) (may : List Str), xs.length < 16777216 → (∀ x ∈ xs, Sh 10 x) →
              (compS (fun (y123 : Sm) (st140 : Unit) =>
                m_may_stand 60 y123 ⟨may⟩ (r.a.length : Int) >>= fun r146 =>
                if r146 = true then (
                .ok (none, ()))
                else (
                .ok (some y123, ()))) xs () >>= fun q164 =>
                if q164.1 ≠ ([] : List Sm) then (
                .ok (.rt false))
                else (
                (.ok (.nx ()) : M (Fl Unit Bool)))) = if xs.all (mayB may (r.a.length : Int)) = true then .ok (.nx ()) else .ok (.rt false) := fun xs may hl hs => by
            rw [bind_ok (compS_pure (fun y => if mayB may (r.a.length : Int) y = true then none else some y) hl fun y hy => by
              rw [bind_ok (may_val 60 10 y (by decide) (hs y hy))]
              by_cases z : mayB may (r.a.length : Int) y = true
              · rw [if_pos z, if_pos z]
              · rw [if_neg z, if_neg z])]
            by_cases z : xs.all (mayB may (r.a.length : Int)) = true
            · rw [if_pos z, if_neg]
              intro q
              refine q ?_
              show List.filterMap _ _ = []
              rw [List.filterMap_eq_nil_iff]
              exact fun y hy => if_pos (List.all_eq_true.mp z y hy)
            · rw [if_neg z, if_pos]
              intro q
              have q : List.filterMap _ xs = [] := q
              rw [List.filterMap_eq_nil_iff] at q
              refine z (List.all_eq_true.mpr fun y hy => ?_)
              have := q y hy
              by_cases u : mayB may (r.a.length : Int) y = true
              · exact u
              · rw [if_neg u] at this; exact nomatch this
          rw [loopM_test (z := false) (fun (y : List Sm × Tp Str) => y.1.all (mayB y.2.l (r.a.length : Int))) (fun y hy => by
            simp only [List.mem_cons, List.not_mem_nil, or_false] at hy
            rcases hy with e | e | e
            · subst e; exact one r.a mB (by omega) R.sa
            · subst e; exact one r.b mO (by omega) R.sb
            · subst e; exact one r.c mJ (by omega) R.sc)]
          have ea : (([(r.a, Tp.mk mB), (r.b, Tp.mk mO), (r.c, Tp.mk mJ)] : List (List Sm × Tp Str)).all (fun (y : List Sm × Tp Str) => y.1.all (mayB y.2.l (r.a.length : Int)))) = (r.a.all (mayB mB r.a.length) && r.b.all (mayB mO r.a.length) && r.c.all (mayB mJ r.a.length)) := by
            show (_ && (_ && (_ && true))) = _
            rw [Bool.and_true, ← Bool.and_assoc]
          refine (congrArg (· >>= _) (congrArg (fun (c : Bool) => if c = true then (.ok (.nx ()) : M (Fl Unit Bool)) else .ok (.rt false)) ea)).trans ?_
          unfold sumsB
          by_cases z : (r.a.all (mayB mB r.a.length) && r.b.all (mayB mO r.a.length) && r.c.all (mayB mJ r.a.length)) = true
          · rw [z, Bool.true_and]
            show (m_may_stand 60 r.d ⟨mT⟩ (r.a.length : Int) >>= _) = _
            rw [bind_ok (may_val 60 10 r.d (by decide) R.sd)]
          · rw [Bool.eq_false_iff.mpr z, Bool.false_and]
            rfl
        · rw [if_pos c4, decide_eq_false (by omega), Bool.false_and]
      · rw [if_pos c3, decide_eq_false (by omega), Bool.false_and]
    · rw [if_neg c2, decide_eq_false (by omega), Bool.false_and]
  · rw [if_neg c1, decide_eq_false (by omega), Bool.false_and]

/-! ### sums told of, leaf by leaf -/
section
variable {k : Nat} {own tie : Int} {so more : List Int}
theorem l_num (n : Int) : m_sum_at (k + 1) (Sm.num "number" n) own tie so more = .ok n := by
  unfold m_sum_at
  rw [if_pos (show Sm.word (Sm.num "number" n) = ("number" : Str) from rfl)]
  rfl
theorem l_own : m_sum_at (k + 1) (Sm.nam "own") own tie so more = .ok own := by
  unfold m_sum_at
  rw [if_neg (show ¬ Sm.word (Sm.nam "own") = ("number" : Str) from s_no), if_pos (show Sm.word (Sm.nam "own") = ("own" : Str) from rfl)]
theorem l_tie : m_sum_at (k + 1) (Sm.nam "tie") own tie so more = .ok tie := by
  unfold m_sum_at
  rw [if_neg (show ¬ Sm.word (Sm.nam "tie") = ("number" : Str) from s_nt), if_neg (show ¬ Sm.word (Sm.nam "tie") = ("own" : Str) from s_to), if_pos (show Sm.word (Sm.nam "tie") = ("tie" : Str) from rfl)]
theorem l_so {n v : Int} (h : L2.atI so n = some v) : m_sum_at (k + 1) (Sm.num "so" n) own tie so more = .ok v := by
  unfold m_sum_at
  rw [if_neg (show ¬ Sm.word (Sm.num "so" n) = ("number" : Str) from s_ns), if_neg (show ¬ Sm.word (Sm.num "so" n) = ("own" : Str) from s_so), if_neg (show ¬ Sm.word (Sm.num "so" n) = ("tie" : Str) from s_st), if_pos (show Sm.word (Sm.num "so" n) = ("so" : Str) from rfl)]
  rw [opt_b (show Sm.int? (Sm.num "so" n) = some n from rfl), opt_b h]
theorem l_more {n v : Int} (h : L2.atI more n = some v) : m_sum_at (k + 1) (Sm.num "more" n) own tie so more = .ok v := by
  unfold m_sum_at
  rw [if_neg (show ¬ Sm.word (Sm.num "more" n) = ("number" : Str) from s_nm), if_neg (show ¬ Sm.word (Sm.num "more" n) = ("own" : Str) from s_mo), if_neg (show ¬ Sm.word (Sm.num "more" n) = ("tie" : Str) from s_mt), if_neg (show ¬ Sm.word (Sm.num "more" n) = ("so" : Str) from s_ms), if_pos (show Sm.word (Sm.num "more" n) = ("more" : Str) from rfl)]
  rw [opt_b (show Sm.int? (Sm.num "more" n) = some n from rfl), opt_b h]
theorem o_plus {a b : Sm} {va vb : Int} (ha : m_sum_at k a own tie so more = .ok va) (hb : m_sum_at k b own tie so more = .ok vb) : m_sum_at (k + 1) (.two "plus" a b) own tie so more = .ok (va + vb) := by
  rw [op_sum (.inl rfl) ha hb, if_pos rfl]
theorem o_times {a b : Sm} {va vb : Int} (ha : m_sum_at k a own tie so more = .ok va) (hb : m_sum_at k b own tie so more = .ok vb) (hc : CMulW va vb) : m_sum_at (k + 1) (.two "times" a b) own tie so more = .ok (va * vb) := by
  rw [op_sum (.inr (.inr (.inl rfl))) ha hb, if_neg (by decide +kernel), if_neg (by decide +kernel), if_pos rfl, chk_b hc]
theorem o_most {a b : Sm} {va vb : Int} (ha : m_sum_at k a own tie so more = .ok va) (hb : m_sum_at k b own tie so more = .ok vb) : m_sum_at (k + 1) (.two "most" a b) own tie so more = .ok (if vb > va then vb else va) := by
  rw [op_sum (.inr (.inr (.inr (.inl rfl)))) ha hb, if_neg (by decide +kernel), if_neg (by decide +kernel), if_neg (by decide +kernel), if_pos rfl]
end
theorem comp1 {i c : Type} {f : i → Unit → M (Option c × Unit)} {a : i} {va : c} (ha : f a () = .ok (some va, ())) : compS f [a] () = .ok ([va], ()) := by
  unfold compS
  rw [chk_b (show [a].length < 16777216 by show 1 < 16777216; decide)]
  show (nox (f a ()) >>= _) = _
  rw [ha]
  rfl
theorem need_of {r : Rule} (R : RSh r) (h : ruleB r = true) : m_need_rule r = .ok () := by
  unfold m_need_rule
  rw [bind_ok (is_rule_val R), if_pos h]
/-- the rows put together one by one -/
theorem row_fold {σ : Type} {r : Rule} {own : Int} {f : Int → List Int} {G : σ → List Int} {step : σ → Int → σ} : ∀ {cs : List Int} {s : σ}, (∀ s, ∀ c ∈ cs, m_joined r (G s) (f c) own = .ok (G (step s c))) →
    loopN (fun (y42 : (List Int)) (st53 : (List Int)) => m_joined r st53 y42 own >>= fun r61 => (.ok r61 : M _)) (cs.map f) (G s) = .ok (G (cs.foldl step s))
  | [], s, _ => rfl
  | c :: cs, s, h => by
    show ((m_joined r (G s) (f c) own >>= fun r61 => (.ok r61 : M _)) >>= _) = _
    rw [h s c List.mem_cons_self]
    exact row_fold fun s x hx => h s x (List.mem_cons_of_mem _ hx)
theorem row_with_fold {σ : Type} {t : Tr} {r : Rule} {p own : Int} {f : Int → List Int} {G : σ → List Int} {step : σ → Int → σ} {cs : List Int} {s : σ} (ho : L2.atI t.1 p = some own) (hb : m_begun r own = .ok (G s)) (hj : ∀ s, ∀ c ∈ cs, m_joined r (G s) (f c) own = .ok (G (step s c))) : m_row_with t r p (cs.map f) = .ok (G (cs.foldl step s)) := by
  unfold m_row_with
  rw [opt_b ho, bind_ok hb, bind_ok (row_fold hj)]
/-! ### two rules by name -/
def farR : Rule := T4.mk [Sm.num "number" 0] [Sm.two "plus" (Sm.num "more" 0) (Sm.nam "tie")] [Sm.two "most" (Sm.num "so" 0) (Sm.num "more" 0)] (Sm.num "so" 0)
def sumR : Rule := T4.mk [Sm.num "number" 0, Sm.num "number" 1] [Sm.two "plus" (Sm.num "more" 0) (Sm.two "times" (Sm.nam "tie") (Sm.num "more" 1)), Sm.num "more" 1] [Sm.two "plus" (Sm.num "so" 0) (Sm.num "more" 0), Sm.two "plus" (Sm.num "so" 1) (Sm.num "more" 1)] (Sm.num "so" 0)
theorem lf_num (d : Nat) (n : Int) : Sh (d + 1) (Sm.num "number" n) := .inl (.inl ⟨n, rfl⟩)
theorem lf_tie (d : Nat) : Sh (d + 1) (Sm.nam "tie") := .inl (.inr (.inr (.inl rfl)))
theorem lf_so (d : Nat) (n : Int) : Sh (d + 1) (Sm.num "so" n) := .inl (.inr (.inr (.inr (.inl ⟨n, rfl⟩))))
theorem lf_more (d : Nat) (n : Int) : Sh (d + 1) (Sm.num "more" n) := .inl (.inr (.inr (.inr (.inr ⟨n, rfl⟩))))
theorem sh_plus {d : Nat} {a b : Sm} (ha : Sh d a) (hb : Sh d b) : Sh (d + 1) (Sm.two "plus" a b) := .inr ⟨_, _, _, rfl, .inl rfl, ha, hb⟩
theorem sh_times {d : Nat} {a b : Sm} (ha : Sh d a) (hb : Sh d b) : Sh (d + 1) (Sm.two "times" a b) := .inr ⟨_, _, _, rfl, .inr (.inr (.inl rfl)), ha, hb⟩
theorem sh_most {d : Nat} {a b : Sm} (ha : Sh d a) (hb : Sh d b) : Sh (d + 1) (Sm.two "most" a b) := .inr ⟨_, _, _, rfl, .inr (.inr (.inr (.inl rfl))), ha, hb⟩
theorem farR_need : m_need_rule farR = .ok () := need_of {
    la := by decide
    lb := by decide
    lc := by decide
    sa := fun x hx => by rw [List.mem_singleton.mp hx]; exact lf_num 9 0
    sb := fun x hx => by rw [List.mem_singleton.mp hx]; exact sh_plus (lf_more 8 0) (lf_tie 8)
    sc := fun x hx => by rw [List.mem_singleton.mp hx]; exact sh_most (lf_so 8 0) (lf_more 8 0)
    sd := lf_so 9 0 } (by decide +kernel)
theorem sumR_need : m_need_rule sumR = .ok () := need_of {
    la := by decide
    lb := by decide
    lc := by decide
    sa := fun x hx => by
      rcases List.mem_cons.mp hx with e | e
      · rw [e]; exact lf_num 9 0
      · rw [List.mem_singleton.mp e]; exact lf_num 9 1
    sb := fun x hx => by
      rcases List.mem_cons.mp hx with e | e
      · rw [e]; exact sh_plus (lf_more 8 0) (sh_times (lf_tie 7) (lf_more 7 1))
      · rw [List.mem_singleton.mp e]; exact lf_more 9 1
    sc := fun x hx => by
      rcases List.mem_cons.mp hx with e | e
      · rw [e]; exact sh_plus (lf_so 8 0) (lf_more 8 0)
      · rw [List.mem_singleton.mp e]; exact sh_plus (lf_so 8 1) (lf_more 8 1)
    sd := lf_so 9 0 } (by decide +kernel)

theorem named_far : m_rule_named "farthest" = .ok farR := by
  unfold m_rule_named m_all_rules
  rfl
theorem named_sum : m_rule_named "sum" = .ok sumR := by
  unfold m_rule_named m_all_rules
  rfl

theorem cut_take {a : Type} (xs : List a) (k : Int) (h : 0 ≤ k) : cutL xs none (some k) = xs.take k.toNat := by
  unfold cutL
  rw [HT.sIx_none, show HT.sIx xs.length xs.length (some k) = min k.toNat xs.length by show (if k < 0 then (k + (xs.length : Int)).toNat else min k.toNat xs.length) = _; rw [if_neg (by omega)], List.drop_zero, Nat.sub_zero]
  by_cases z : k.toNat ≤ xs.length
  · rw [Nat.min_eq_left z]
  · rw [Nat.min_eq_right (by omega), List.take_length, List.take_of_length_le (by omega)]
theorem cut_drop {a : Type} (xs : List a) (k : Int) (h : 0 ≤ k) : cutL xs (some k) none = xs.drop k.toNat := by
  unfold cutL
  rw [HT.sIx_none, show HT.sIx xs.length 0 (some k) = min k.toNat xs.length by show (if k < 0 then (k + (xs.length : Int)).toNat else min k.toNat xs.length) = _; rw [if_neg (by omega)]]
  by_cases z : k.toNat ≤ xs.length
  · rw [Nat.min_eq_left z, List.take_of_length_le (by rw [List.length_drop]; omega)]
  · rw [Nat.min_eq_right (by omega), List.drop_length, List.drop_of_length_le (by omega), List.take_nil]

/-! ### rows put together, told by what is gone through -/
def wt (t : Tr) (z : Int) : Int := (L2.atI t.1 z).getD 0
theorem near_at {t : Tr} (ht : TreeOk t) {p : Int} (p0 : 0 ≤ p) (p1 : p < (t.1.length : Int)) : L2.atI t.1 p = some (wt t p) := by
  obtain ⟨own, o1, _⟩ := atI_some (xs := t.1) (j := p) p0 p1
  rw [o1]
  unfold wt
  rw [o1]
  rfl
theorem row_fold_pre {r : Rule} {own : Int} {f : Int → List Int} {G : List Int → List Int} : ∀ (cs pre : List Int), (∀ p c post, pre ++ cs = p ++ c :: post → m_joined r (G p) (f c) own = .ok (G (p ++ [c]))) →
    loopN (fun (y42 : (List Int)) (st53 : (List Int)) => m_joined r st53 y42 own >>= fun r61 => (.ok r61 : M _)) (cs.map f) (G pre) = .ok (G (pre ++ cs))
  | [], pre, _ => by rw [List.append_nil]; rfl
  | c :: cs, pre, h => by
    show ((m_joined r (G pre) (f c) own >>= fun r61 => (.ok r61 : M _)) >>= _) = _
    rw [h pre c cs rfl]
    have := row_fold_pre cs (pre ++ [c]) fun p d post e => h p d post (by rw [← e, List.append_assoc]; rfl)
    rw [List.append_assoc] at this
    exact this
theorem row_with_pre {t : Tr} {r : Rule} {p own : Int} {f : Int → List Int} {G : List Int → List Int} {cs : List Int} (ho : L2.atI t.1 p = some own) (hb : m_begun r own = .ok (G [])) (hj : ∀ pre c post, cs = pre ++ c :: post → m_joined r (G pre) (f c) own = .ok (G (pre ++ [c]))) : m_row_with t r p (cs.map f) = .ok (G cs) := by
  unfold m_row_with
  rw [opt_b ho, bind_ok hb, bind_ok (row_fold_pre cs [] hj)]
  rfl

/-! ### all lists of places within some: families of sums -/
def sbl : List Int → List (List Int)
  | [] => [[]]
  | x :: xs => (sbl xs).map (x :: ·) ++ sbl xs
theorem sbl_app : ∀ (xs ys : List Int), sbl (xs ++ ys) = (sbl xs).flatMap fun s => (sbl ys).map (s ++ ·)
  | [], ys => by
    show sbl ys = ([[]] : List (List Int)).flatMap _
    simp
  | x :: xs, ys => by
    show (sbl (xs ++ ys)).map (x :: ·) ++ sbl (xs ++ ys) = ((sbl xs).map (x :: ·) ++ sbl xs).flatMap _
    rw [sbl_app xs ys, List.flatMap_append, List.map_flatMap, List.flatMap_map]
    congr 2
    funext s
    rw [List.map_map]
    rfl
theorem sbl_sub : ∀ {xs s : List Int}, s ∈ sbl xs → s.Sublist xs
  | [], s, h => by
    rw [List.mem_singleton.mp h]
    exact List.Sublist.refl _
  | x :: xs, s, h => by
    rcases List.mem_append.mp h with h | h
    · obtain ⟨r, hr, rfl⟩ := List.mem_map.mp h
      exact (sbl_sub hr).cons₂ x
    · exact (sbl_sub h).cons x
theorem sbl_len : ∀ xs : List Int, (sbl xs).length = 2 ^ xs.length
  | [] => rfl
  | x :: xs => by
    show ((sbl xs).map (x :: ·) ++ sbl xs).length = _
    rw [List.length_append, List.length_map, sbl_len xs, List.length_cons, Nat.pow_succ]
    omega
theorem sbl_map_perm {α : Type} {xs ys : List Int} (h : xs.Perm ys) : ∀ (F : List Int → α), (∀ s r, s.Perm r → F s = F r) → ((sbl xs).map F).Perm ((sbl ys).map F) := by
  induction h with
  | nil => exact fun F _ => List.Perm.refl _
  | cons x h ih =>
    intro F hF
    show (((sbl _).map (x :: ·) ++ sbl _).map F).Perm (((sbl _).map (x :: ·) ++ sbl _).map F)
    rw [List.map_append, List.map_append, List.map_map, List.map_map]
    exact (ih (F ∘ (x :: ·)) fun s r h => hF _ _ (h.cons x)).append (ih F hF)
  | swap x y l =>
    intro F hF
    show ((((sbl l).map (x :: ·) ++ sbl l).map (y :: ·) ++ ((sbl l).map (x :: ·) ++ sbl l)).map F).Perm ((((sbl l).map (y :: ·) ++ sbl l).map (x :: ·) ++ ((sbl l).map (y :: ·) ++ sbl l)).map F)
    simp only [List.map_append, List.map_map]
    have e : (sbl l).map (F ∘ (fun x_1 => y :: x_1) ∘ fun x_1 => x :: x_1) = (sbl l).map (F ∘ (fun x_1 => x :: x_1) ∘ fun x_1 => y :: x_1) := List.map_congr_left fun s _ => hF _ _ (List.Perm.swap _ _ _)
    rw [e, List.append_assoc, List.append_assoc]
    refine List.Perm.append_left _ ?_
    rw [← List.append_assoc, ← List.append_assoc]
    exact List.Perm.append_right _ List.perm_append_comm
  | trans _ _ i1 i2 => exact fun F hF => (i1 F hF).trans (i2 F hF)
/-- what is told of those lists that have a number -/
def fam (F : List Int → Option Int) (xs : List Int) : List Int := (sbl xs).filterMap F
theorem fam_perm {F : List Int → Option Int} (hF : ∀ s r, s.Perm r → F s = F r) {xs ys : List Int} (h : xs.Perm ys) : (fam F xs).Perm (fam F ys) := by
  have h1 := (sbl_map_perm h F hF).filterMap id
  rw [List.filterMap_map, List.filterMap_map] at h1
  exact h1
theorem fam_cons (F : List Int → Option Int) (x : Int) (xs : List Int) : fam F (x :: xs) = fam (fun s => F (x :: s)) xs ++ fam F xs := by
  show ((sbl xs).map (x :: ·) ++ sbl xs).filterMap F = _
  rw [List.filterMap_append, List.filterMap_map]
  rfl
theorem fam_congr {F G : List Int → Option Int} {xs : List Int} (h : ∀ s ∈ sbl xs, F s = G s) : fam F xs = fam G xs := PG.fm_congr h
def prodL (L M : List Int) : List Int := L.flatMap fun x => M.map (x + ·)
def oadd (x y : Option Int) : Option Int := x.bind fun a => y.map (a + ·)
theorem fam_app {F G H : List Int → Option Int} {xs ys : List Int} (h : ∀ s ∈ sbl xs, ∀ r ∈ sbl ys, F (s ++ r) = oadd (G s) (H r)) : fam F (xs ++ ys) = prodL (fam G xs) (fam H ys) := by
  unfold fam prodL
  rw [sbl_app]
  generalize sbl xs = A at h
  induction A with
  | nil => rfl
  | cons s A ih =>
    rw [List.flatMap_cons, List.filterMap_append, ih fun s hs => h s (List.mem_cons_of_mem _ hs), List.filterMap_cons]
    have h := h s List.mem_cons_self
    have e : ((sbl ys).map (s ++ ·)).filterMap F = (sbl ys).filterMap fun r => oadd (G s) (H r) := by
      rw [List.filterMap_map]
      exact PG.fm_congr h
    rw [e]
    cases G s with
    | none =>
      have : (sbl ys).filterMap (fun r => oadd none (H r)) = [] := List.filterMap_eq_nil_iff.mpr fun _ _ => rfl
      rw [this]
      rfl
    | some a =>
      show _ = List.flatMap _ (a :: _)
      rw [List.flatMap_cons]
      congr 1
      show _ = ((sbl ys).filterMap H).map _
      rw [List.map_filterMap]
      rfl
theorem fam_nil_only {F : List Int → Option Int} {v : Int} : ∀ {xs : List Int}, (∀ s ∈ sbl xs, F s = if s = [] then some v else none) → fam F xs = [v]
  | [], h => by
    show ([[]] : List (List Int)).filterMap F = _
    rw [List.filterMap_cons, h [] (List.mem_singleton.mpr rfl)]
    rfl
  | x :: xs, h => by
    rw [fam_cons, fam_nil_only (xs := xs) fun s hs => h s (List.mem_append_right _ hs)]
    have : fam (fun s => F (x :: s)) xs = [] := List.filterMap_eq_nil_iff.mpr fun s hs => by
      rw [h (x :: s) (List.mem_append_left _ (List.mem_map.mpr ⟨s, hs, rfl⟩))]
      rfl
    rw [this]
    rfl
theorem fam_none {F : List Int → Option Int} {xs : List Int} (h : ∀ s ∈ sbl xs, F s = none) : fam F xs = [] := List.filterMap_eq_nil_iff.mpr h
theorem fam_len (F : List Int → Option Int) (xs : List Int) : (fam F xs).length ≤ 2 ^ xs.length := by
  rw [← sbl_len]
  exact List.length_filterMap_le _ _
theorem prodL_len (L M : List Int) : (prodL L M).length = L.length * M.length := by
  unfold prodL
  induction L with
  | nil => simp
  | cons x L ih => rw [List.flatMap_cons, List.length_append, ih, List.length_map, List.length_cons, Nat.succ_mul, Nat.add_comm]
theorem prodL_perm {L L' M M' : List Int} (h1 : L.Perm L') (h2 : M.Perm M') : (prodL L M).Perm (prodL L' M') := by
  unfold prodL
  refine (h1.flatMap_right _).trans ?_
  clear h1
  induction L' with
  | nil => exact List.Perm.refl _
  | cons x L ih => rw [List.flatMap_cons, List.flatMap_cons]; exact (h2.map _).append ih
theorem sbl_nil_mem : ∀ xs : List Int, [] ∈ sbl xs
  | [] => List.mem_singleton.mpr rfl
  | _ :: xs => List.mem_append_right _ (sbl_nil_mem xs)
/-! how many there are, and the greatest one -/
structure Ev (e : List Int → Int) (mul add : Int → Int → Int) : Prop where
  perm : ∀ {L M : List Int}, L.Perm M → e L = e M
  mul : ∀ {L M : List Int}, L ≠ [] → M ≠ [] → e (prodL L M) = mul (e L) (e M)
  add : ∀ {L M : List Int}, L ≠ [] → M ≠ [] → e (L ++ M) = add (e L) (e M)
def evN (L : List Int) : Int := (L.length : Int)
theorem ev_n : Ev evN (· * ·) (· + ·) where
  perm h := by unfold evN; rw [h.length_eq]
  mul _ _ := by
    show ((prodL _ _).length : Int) = (_ : Int) * (_ : Int)
    rw [prodL_len, Int.natCast_mul]
    rfl
  add _ _ := by
    show ((_ ++ _ : List Int).length : Int) = (_ : Int) + (_ : Int)
    rw [List.length_append, Int.natCast_add]
    rfl

/-! ### how many ties have both ends within, what places are worth together -/
def tin (s : List Int) (z : Tie) : Bool := decide (z.a ∈ s) && decide (z.b ∈ s)
def tt (t : Tr) (s : List Int) : Nat := t.2.countP (tin s)
def Wo (t : Tr) (s : List Int) : Int := (s.map (wt t)).sum
theorem tin_iff {s : List Int} {z : Tie} : tin s z = true ↔ z.a ∈ s ∧ z.b ∈ s := by
  unfold tin
  rw [Bool.and_eq_true, decide_eq_true_eq, decide_eq_true_eq]
theorem tt_perm {t : Tr} {s r : List Int} (h : s.Perm r) : tt t s = tt t r := by
  unfold tt
  refine congrArg (fun f => List.countP f t.2) (funext fun z => ?_)
  rw [Bool.eq_iff_iff, tin_iff, tin_iff, h.mem_iff, h.mem_iff]
theorem Wo_perm {t : Tr} {s r : List Int} (h : s.Perm r) : Wo t s = Wo t r := by
  unfold Wo
  have := h.map (wt t)
  generalize s.map (wt t) = a, r.map (wt t) = b at this
  induction this with
  | nil => rfl
  | cons x _ ih => rw [List.sum_cons, List.sum_cons, ih]
  | swap x y l => rw [List.sum_cons, List.sum_cons, List.sum_cons, List.sum_cons]; omega
  | trans _ _ i1 i2 => exact i1.trans i2
theorem Wo_app (t : Tr) (s r : List Int) : Wo t (s ++ r) = Wo t s + Wo t r := by
  unfold Wo
  rw [List.map_append, List.sum_append]
theorem countP_two {α : Type} {p q r : α → Bool} : ∀ {l : List α}, (∀ z ∈ l, (if p z = true then 1 else 0) = (if q z = true then 1 else 0) + (if r z = true then 1 else 0)) → l.countP p = l.countP q + l.countP r
  | [], _ => rfl
  | z :: l, h => by
    have h1 := h z List.mem_cons_self
    have h2 := countP_two (l := l) fun y hy => h y (List.mem_cons_of_mem _ hy)
    rw [List.countP_cons, List.countP_cons, List.countP_cons, h2]
    omega
theorem countP_three {α : Type} {p q r u : α → Bool} : ∀ {l : List α}, (∀ z ∈ l, (if p z = true then 1 else 0) = (if q z = true then 1 else 0) + (if r z = true then 1 else 0) + (if u z = true then 1 else 0)) → l.countP p = l.countP q + l.countP r + l.countP u
  | [], _ => rfl
  | z :: l, h => by
    have h1 := h z List.mem_cons_self
    have h2 := countP_three (l := l) fun y hy => h y (List.mem_cons_of_mem _ hy)
    rw [List.countP_cons, List.countP_cons, List.countP_cons, List.countP_cons, h2]
    omega
/-- places tied within are fewer than places -/
theorem grown_tt {ps : List Int} {ts : List Tie} (g : Grown ps ts) : ∀ s : List Int, s.Nodup → s ≠ [] → ts.countP (tin s) + 1 ≤ s.length := by
  induction g with
  | one p =>
    intro s _ h
    have := List.length_pos_iff.mpr h
    show 0 + 1 ≤ _
    omega
  | @more ps ts q p c g hq hp ih =>
    intro s nd h
    rw [List.countP_append, List.countP_cons, List.countP_nil]
    by_cases hc : tin s (tieOf p q c) = true
    · rw [if_pos hc]
      have hpq : p ≠ q := fun e => hp (e ▸ hq)
      obtain ⟨_, hab, _⟩ := tieOf_lt (c := c) hpq
      have hm : p ∈ s ∧ q ∈ s := by
        have := tin_iff.mp hc
        rcases hab with ⟨e1, e2⟩ | ⟨e1, e2⟩
        · rw [e1, e2] at this; exact this
        · rw [e1, e2] at this; exact ⟨this.2, this.1⟩
      have hq' : q ∈ s.erase p := (List.mem_erase_of_ne (fun e => hpq e.symm)).mpr hm.2
      have i := ih (s.erase p) (nd.erase p) (List.ne_nil_of_mem hq')
      rw [List.length_erase_of_mem hm.1] at i
      have hl := List.length_pos_iff.mpr h
      have e : ts.countP (tin (s.erase p)) = ts.countP (tin s) := List.countP_congr fun z hz => by
        obtain ⟨z1, z2, _⟩ := g.in z hz
        rw [tin_iff, tin_iff, List.mem_erase_of_ne (show z.a ≠ p from fun e => hp (by rw [← e]; exact z1)), List.mem_erase_of_ne (show z.b ≠ p from fun e => hp (by rw [← e]; exact z2))]
      omega
    · rw [if_neg hc]
      exact ih s nd h
section
variable {t : Tr} (ht : TreeOk t)
include ht
theorem tt_lt {s : List Int} (nd : s.Nodup) (h : s ≠ []) : tt t s + 1 ≤ s.length := by
  obtain ⟨ps, ts, g, _, e⟩ := ht.ex
  unfold tt
  rw [e, (sortT_perm ts).countP_eq]
  exact grown_tt g s nd h
theorem tt_app {s r : List Int} (h : ∀ x ∈ s, ∀ y ∈ r, ∀ l, ¬ Step t x y l) : tt t (s ++ r) = tt t s + tt t r := by
  refine countP_two fun z hz => ?_
  have s1 : Step t z.a z.b z.c := ⟨z, hz, .inl ⟨rfl, rfl⟩, rfl⟩
  have s2 : Step t z.b z.a z.c := ⟨z, hz, .inr ⟨rfl, rfl⟩, rfl⟩
  have e1 : tin (s ++ r) z = true ↔ (tin s z = true ∨ tin r z = true) := by
    rw [tin_iff, tin_iff, tin_iff, List.mem_append, List.mem_append]
    constructor
    · rintro ⟨a | a, b | b⟩
      · exact .inl ⟨a, b⟩
      · exact (h _ a _ b _ s1).elim
      · exact (h _ b _ a _ s2).elim
      · exact .inr ⟨a, b⟩
    · rintro (⟨a, b⟩ | ⟨a, b⟩)
      · exact ⟨.inl a, .inl b⟩
      · exact ⟨.inr a, .inr b⟩
  by_cases h1 : tin s z = true
  · have h2 : ¬ tin r z = true := fun h2 => h _ (tin_iff.mp h1).1 _ (tin_iff.mp h2).2 _ s1
    rw [if_pos (e1.mpr (.inl h1)), if_pos h1, if_neg h2]
  · by_cases h2 : tin r z = true
    · rw [if_pos (e1.mpr (.inr h2)), if_neg h1, if_pos h2]
    · rw [if_neg (fun z => (e1.mp z).elim h1 h2), if_neg h1, if_neg h2]
theorem one_tie {b c : Int} (hc : c ∈ nearOf t.2 b) : t.2.countP (fun z => decide (other b z = some c)) = 1 := by
  have nd := (nr_nd ht b)
  unfold nearOf at nd hc
  have nd := (sortT_perm _).nodup_iff.mp nd
  have hc := sortT_mem.mp hc
  have e : ∀ l : List Tie, l.countP (fun z => decide (other b z = some c)) = (l.filterMap (other b)).count c := fun l => by
    induction l with
    | nil => rfl
    | cons z l ih =>
      rw [List.countP_cons, List.filterMap_cons, ih]
      cases h : other b z with
      | none => rfl
      | some x =>
        show _ = List.count c (x :: _)
        rw [List.count_cons]
        by_cases e : x = c
        · rw [if_pos (decide_eq_true (by rw [e])), if_pos (by simpa using e)]
        · rw [if_neg (by simpa using e), if_neg (by simpa using e)]
  rw [e, nd.count, if_pos hc]
theorem tt_step {b c : Int} {s r : List Int} (hc : c ∈ nearOf t.2 b) (h1 : ∀ x ∈ s, ∀ y ∈ r, ∀ l, ¬ Step t x y l) (h2 : ∀ y ∈ r, ∀ l, Step t b y l → y = c) (h3 : ∀ y ∈ r, y ≠ b ∧ y ∉ s) : tt t (b :: (s ++ r)) = tt t (b :: s) + tt t r + (if c ∈ r then 1 else 0) := by
  have key : tt t (b :: (s ++ r)) = tt t (b :: s) + tt t r + t.2.countP (fun z => decide (c ∈ r) && decide (other b z = some c)) := by
    refine countP_three fun z hz => ?_
    have s1 : Step t z.a z.b z.c := ⟨z, hz, .inl ⟨rfl, rfl⟩, rfl⟩
    have s2 : Step t z.b z.a z.c := ⟨z, hz, .inr ⟨rfl, rfl⟩, rfl⟩
    have hlt := (step_rg ht s1).2.2
    have eo : other b z = some c ↔ (z.a = b ∧ z.b = c) ∨ (z.b = b ∧ z.a = c) := by
      unfold other
      by_cases q1 : z.a = b
      · rw [if_pos q1]
        refine ⟨fun e => .inl ⟨q1, Option.some.inj e⟩, fun e => ?_⟩
        rcases e with e | e
        · rw [e.2]
        · exact (hlt (q1.trans e.1.symm)).elim
      · rw [if_neg q1]
        by_cases q2 : z.b = b
        · rw [if_pos q2]
          refine ⟨fun e => .inr ⟨q2, Option.some.inj e⟩, fun e => ?_⟩
          rcases e with e | e
          · exact (q1 e.1).elim
          · rw [e.2]
        · rw [if_neg q2]
          exact ⟨(fun e => nomatch e), fun e => Or.elim e (fun e => (q1 e.1).elim) (fun e => (q2 e.1).elim)⟩
    have eu : (decide (c ∈ r) && decide (other b z = some c)) = true ↔ c ∈ r ∧ ((z.a = b ∧ z.b = c) ∨ (z.b = b ∧ z.a = c)) := by
      rw [Bool.and_eq_true, decide_eq_true_eq, decide_eq_true_eq, eo]
    have ep : tin (b :: (s ++ r)) z = true ↔ (z.a ∈ b :: s ∨ z.a ∈ r) ∧ (z.b ∈ b :: s ∨ z.b ∈ r) := by
      rw [tin_iff, ← List.cons_append, List.mem_append, List.mem_append]
    have cross : ∀ x y l, Step t x y l → x ∈ b :: s → y ∈ r → x = b ∧ y = c := fun x y l hs hx hy => by
      rcases List.mem_cons.mp hx with e | e
      · rw [e] at hs
        exact ⟨e, h2 y hy l hs⟩
      · exact (h1 x e y hy l hs).elim
    have dis : ∀ y, y ∈ r → ¬ y ∈ b :: s := fun y hy hm => by
      rcases List.mem_cons.mp hm with e | e
      · exact (h3 y hy).1 e
      · exact (h3 y hy).2 e
    by_cases qa : z.a ∈ b :: s
    · have na : ¬ z.a ∈ r := fun q => dis _ q qa
      have nr : ¬ tin r z = true := fun q => na (tin_iff.mp q).1
      rw [if_neg nr]
      by_cases qb : z.b ∈ b :: s
      · have nb : ¬ z.b ∈ r := fun q => dis _ q qb
        rw [if_pos (ep.mpr ⟨.inl qa, .inl qb⟩), if_pos (tin_iff.mpr ⟨qa, qb⟩), if_neg]
        intro q
        obtain ⟨q0, q | q⟩ := eu.mp q
        · exact nb (by rw [q.2]; exact q0)
        · exact na (by rw [q.2]; exact q0)
      · rw [if_neg (show ¬ tin (b :: s) z = true from fun q => qb (tin_iff.mp q).2)]
        by_cases nb : z.b ∈ r
        · have := cross _ _ _ s1 qa nb
          rw [if_pos (ep.mpr ⟨.inl qa, .inr nb⟩), if_pos (eu.mpr ⟨by rw [← this.2]; exact nb, .inl this⟩)]
        · rw [if_neg (fun q => (ep.mp q).2.elim qb nb), if_neg]
          intro q
          obtain ⟨q0, q | q⟩ := eu.mp q
          · exact nb (by rw [q.2]; exact q0)
          · exact na (by rw [q.2]; exact q0)
    · rw [if_neg (show ¬ tin (b :: s) z = true from fun q => qa (tin_iff.mp q).1)]
      by_cases na : z.a ∈ r
      · by_cases nb : z.b ∈ r
        · have qb : ¬ z.b ∈ b :: s := dis _ nb
          rw [if_pos (ep.mpr ⟨.inr na, .inr nb⟩), if_pos (tin_iff.mpr ⟨na, nb⟩), if_neg]
          intro q
          obtain ⟨q0, q | q⟩ := eu.mp q
          · exact qa (by rw [q.1]; exact List.mem_cons_self)
          · exact qb (by rw [q.1]; exact List.mem_cons_self)
        · rw [if_neg (show ¬ tin r z = true from fun q => nb (tin_iff.mp q).2)]
          by_cases qb : z.b ∈ b :: s
          · have := cross _ _ _ s2 qb na
            rw [if_pos (ep.mpr ⟨.inr na, .inl qb⟩), if_pos (eu.mpr ⟨by rw [← this.2]; exact na, .inr this⟩)]
          · rw [if_neg (fun q => (ep.mp q).2.elim qb nb), if_neg]
            intro q
            obtain ⟨q0, q | q⟩ := eu.mp q
            · exact qa (by rw [q.1]; exact List.mem_cons_self)
            · exact qb (by rw [q.1]; exact List.mem_cons_self)
      · rw [if_neg (fun q => (ep.mp q).1.elim qa na), if_neg (show ¬ tin r z = true from fun q => na (tin_iff.mp q).1), if_neg]
        intro q
        obtain ⟨q0, q | q⟩ := eu.mp q
        · exact qa (by rw [q.1]; exact List.mem_cons_self)
        · exact na (by rw [q.2]; exact q0)
  rw [key]
  congr 1
  by_cases q : c ∈ r
  · rw [if_pos q, ← one_tie ht hc]
    refine congrArg (fun f => List.countP f t.2) (funext fun z => ?_)
    rw [decide_eq_true q, Bool.true_and]
  · rw [if_neg q]
    refine List.countP_eq_zero.mpr fun z _ => ?_
    rw [decide_eq_false q, Bool.false_and]
    exact Bool.false_ne_true
end

/-! ### families of lists over the parts that hang at a place -/
noncomputable def flatP (t : Tr) (b : Int) (cs : List Int) : List Int := cs.flatMap (partL t b)
def Find (t : Tr) (s : List Int) : Option Int := if tt t s = 0 then some (Wo t s) else none
def Fcon (t : Tr) (s : List Int) : Option Int := if tt t s + 1 = s.length then some (Wo t s) else none
/-- lists no two of them tied, with b and without it -/
noncomputable def A1 (t : Tr) (b : Int) (cs : List Int) : List Int := fam (fun s => Find t (b :: s)) (flatP t b cs)
noncomputable def A0 (t : Tr) (b : Int) (cs : List Int) : List Int := fam (Find t) (flatP t b cs)
/-- lists with b that hang together -/
noncomputable def Pc (t : Tr) (b : Int) (cs : List Int) : List Int := fam (fun s => Fcon t (b :: s)) (flatP t b cs)
theorem Find_perm {t : Tr} {s r : List Int} (h : s.Perm r) : Find t s = Find t r := by
  unfold Find
  rw [tt_perm h, Wo_perm h]
theorem Fcon_perm {t : Tr} {s r : List Int} (h : s.Perm r) : Fcon t s = Fcon t r := by
  unfold Fcon
  rw [tt_perm h, Wo_perm h, h.length_eq]
theorem tt_nil (t : Tr) : tt t [] = 0 := List.countP_eq_zero.mpr fun z _ h => nomatch (tin_iff.mp h).1
theorem Wo_nil (t : Tr) : Wo t [] = 0 := rfl
theorem Wo_cons (t : Tr) (b : Int) (s : List Int) : Wo t (b :: s) = wt t b + Wo t s := by
  unfold Wo
  rw [List.map_cons, List.sum_cons]
theorem tt_one {t : Tr} (ht : TreeOk t) (b : Int) : tt t [b] = 0 := by
  have := tt_lt ht (s := [b]) (by simp) (by simp)
  have e : [b].length = 1 := rfl
  omega
theorem fam_has {F : List Int → Option Int} {xs : List Int} {v : Int} (h : F [] = some v) : fam F xs ≠ [] := by
  refine List.ne_nil_of_mem (a := v) (List.mem_filterMap.mpr ⟨[], sbl_nil_mem xs, h⟩)
section
variable {t : Tr} (ht : TreeOk t)
include ht
theorem A1_ne (b : Int) (cs : List Int) : A1 t b cs ≠ [] := fam_has (v := Wo t [b]) (by unfold Find; rw [tt_one ht, if_pos rfl])
theorem A0_ne (b : Int) (cs : List Int) : A0 t b cs ≠ [] := fam_has (v := 0) (by unfold Find; rw [tt_nil, if_pos rfl]; rfl)
theorem Pc_ne (b : Int) (cs : List Int) : Pc t b cs ≠ [] := fam_has (v := Wo t [b]) (by unfold Fcon; rw [tt_one ht, if_pos (show 0 + 1 = [b].length from rfl)])
theorem A1_nil (b : Int) : A1 t b [] = [wt t b] := by
  show ([[]] : List (List Int)).filterMap (fun s => Find t (b :: s)) = _
  rw [List.filterMap_cons]
  have : Find t [b] = some (wt t b) := by
    unfold Find
    rw [tt_one ht, if_pos rfl, Wo_cons, Wo_nil, Int.add_zero]
  rw [this]
  rfl
theorem A0_nil (b : Int) : A0 t b [] = [0] := by
  show ([[]] : List (List Int)).filterMap _ = _
  rw [List.filterMap_cons]
  have : Find t [] = some 0 := by
    unfold Find
    rw [tt_nil, if_pos rfl, Wo_nil]
  rw [this]
  rfl
theorem Pc_nil (b : Int) : Pc t b [] = [wt t b] := by
  show ([[]] : List (List Int)).filterMap (fun s => Fcon t (b :: s)) = _
  rw [List.filterMap_cons]
  have : Fcon t [b] = some (wt t b) := by
    unfold Fcon
    rw [tt_one ht, if_pos (show 0 + 1 = [b].length from rfl), Wo_cons, Wo_nil, Int.add_zero]
  rw [this]
  rfl
/-- what holds of lists over the parts ahead, and over one more -/
structure Ap (t : Tr) (b c : Int) (s r : List Int) : Prop where
  no : ∀ x ∈ s, ∀ y ∈ r, ∀ l, ¬ Step t x y l
  st : ∀ y ∈ r, ∀ l, Step t b y l → y = c
  dis : ∀ y ∈ r, y ≠ b ∧ y ∉ s
  nds : (b :: s).Nodup
  ndr : r.Nodup
theorem flat_in {b : Int} {cs : List Int} (hc : ∀ c ∈ cs, c ∈ nearOf t.2 b) {x : Int} (h : x ∈ flatP t b cs) : ∃ c ∈ cs, Cn t b c x := by
  obtain ⟨c, h1, h2⟩ := List.mem_flatMap.mp h
  obtain ⟨m, hs⟩ := (near_step ht).mp (hc c h1)
  exact ⟨c, h1, (partL_mem ht hs).mp h2⟩
theorem ap_of {b c : Int} {pre s r : List Int} (nd : (pre ++ [c]).Nodup) (hc : ∀ x ∈ pre ++ [c], x ∈ nearOf t.2 b) (hs : s ∈ sbl (flatP t b pre)) (hr : r ∈ sbl (partL t b c)) : Ap t b c s r := by
  have hcn := hc c (by simp)
  obtain ⟨m, hbc⟩ := (near_step ht).mp hcn
  have hpre : ∀ x ∈ pre, x ∈ nearOf t.2 b := fun x hx => hc x (List.mem_append_left _ hx)
  have hncp : c ∉ pre := fun z => (List.nodup_append.mp nd).2.2 c z c (List.mem_singleton.mpr rfl) rfl
  have is : ∀ x ∈ s, ∃ c' ∈ pre, Cn t b c' x := fun x hx => flat_in ht hpre ((sbl_sub hs).subset hx)
  have ir : ∀ y ∈ r, Cn t b c y := fun y hy => (partL_mem ht hbc).mp ((sbl_sub hr).subset hy)
  have neb : ∀ c', c' ∈ nearOf t.2 b → ∀ x, Cn t b c' x → x ≠ b := fun c' h1 x h2 => by
    obtain ⟨m', h'⟩ := (near_step ht).mp h1
    exact h2.ne (step_rg ht h').2.2.symm
  obtain ⟨n1, n2⟩ := flat_parts_nd ht (List.nodup_append.mp nd).1 hpre
  exact {
    no := fun x hx y hy l hst => by
      obtain ⟨c', h1, h2⟩ := is x hx
      have h3 := ir y hy
      have := cn_apart ht (hpre c' h1) hcn (h2.on hst (neb c hcn y h3)) h3
      exact hncp (this ▸ h1)
    st := fun y hy l hst => cn_apart ht ((near_step ht).mpr ⟨l, hst⟩) hcn (Cn.me y) (ir y hy)
    dis := fun y hy => ⟨neb c hcn y (ir y hy), fun hys => by
      obtain ⟨c', h1, h2⟩ := is y hys
      exact hncp (cn_apart ht (hpre c' h1) hcn h2 (ir y hy) ▸ h1)⟩
    nds := List.nodup_cons.mpr ⟨fun hb => by
      obtain ⟨c', h1, h2⟩ := is b hb
      exact neb c' (hpre c' h1) b h2 rfl, (sbl_sub hs).nodup n1⟩
    ndr := (sbl_sub hr).nodup (partL_nd t b c) }
theorem flatP_app (b c : Int) (pre : List Int) : flatP t b (pre ++ [c]) = flatP t b pre ++ partL t b c := by
  unfold flatP
  rw [List.flatMap_append, List.flatMap_singleton]
theorem not_own {b c : Int} {s cs : List Int} (hc : ∀ x ∈ cs, x ∈ nearOf t.2 c) (hs : s ∈ sbl (flatP t c cs)) : c ∉ s := fun h => by
  obtain ⟨d, h1, h2⟩ := flat_in ht hc ((sbl_sub hs).subset h)
  obtain ⟨m, h3⟩ := (near_step ht).mp (hc d h1)
  exact h2.ne (step_rg ht h3).2.2.symm rfl
theorem subs_near (a b : Int) : ∀ x ∈ subs t a b, x ∈ nearOf t.2 b := fun x hx => (List.mem_filter.mp hx).1
theorem A0_step {b c : Int} {pre : List Int} (nd : (pre ++ [c]).Nodup) (hc : ∀ x ∈ pre ++ [c], x ∈ nearOf t.2 b) : (A0 t b (pre ++ [c])).Perm (prodL (A0 t b pre) (A1 t c (subs t b c) ++ A0 t c (subs t b c))) := by
  obtain ⟨m, hbc⟩ := (near_step ht).mp (hc c (by simp))
  unfold A0
  rw [flatP_app ht, fam_app (G := Find t) (H := Find t) fun s hs r hr => by
    have A := ap_of ht nd hc hs hr
    unfold Find
    rw [tt_app ht A.no, Wo_app]
    by_cases h1 : tt t s = 0
    · by_cases h2 : tt t r = 0
      · rw [if_pos (by omega), if_pos h1, if_pos h2]; rfl
      · rw [if_neg (by omega), if_pos h1, if_neg h2]; rfl
    · rw [if_neg (by omega), if_neg h1]; rfl]
  refine prodL_perm (List.Perm.refl _) ((fam_perm (fun s r h => Find_perm h) (partL_perm ht hbc)).trans ?_)
  rw [fam_cons]
  exact List.Perm.refl _
theorem A1_step {b c : Int} {pre : List Int} (nd : (pre ++ [c]).Nodup) (hc : ∀ x ∈ pre ++ [c], x ∈ nearOf t.2 b) : (A1 t b (pre ++ [c])).Perm (prodL (A1 t b pre) (A0 t c (subs t b c))) := by
  have hcn := hc c (by simp)
  obtain ⟨m, hbc⟩ := (near_step ht).mp hcn
  unfold A1 A0
  rw [flatP_app ht, fam_app (G := fun s => Find t (b :: s)) (H := fun r => if c ∈ r then none else Find t r) fun s hs r hr => by
    have A := ap_of ht nd hc hs hr
    unfold Find
    rw [tt_step ht hcn A.no A.st A.dis, ← List.cons_append, Wo_app]
    by_cases h0 : c ∈ r
    · rw [if_pos h0, if_pos h0, if_neg (by omega)]
      by_cases h1 : tt t (b :: s) = 0
      · rw [if_pos h1]; rfl
      · rw [if_neg h1]; rfl
    · rw [if_neg h0, if_neg h0]
      by_cases h1 : tt t (b :: s) = 0
      · by_cases h2 : tt t r = 0
        · rw [if_pos (by omega), if_pos h1, if_pos h2]; rfl
        · rw [if_neg (by omega), if_pos h1, if_neg h2]; rfl
      · rw [if_neg (by omega), if_neg h1]; rfl]
  refine prodL_perm (List.Perm.refl _) ((fam_perm (fun s r h => ?_) (partL_perm ht hbc)).trans ?_)
  · show (if c ∈ s then none else Find t s) = if c ∈ r then none else Find t r
    rw [Find_perm h]
    by_cases z : c ∈ s
    · rw [if_pos z, if_pos (h.mem_iff.mp z)]
    · rw [if_neg z, if_neg (fun q => z (h.mem_iff.mpr q))]
  · rw [fam_cons, fam_none fun s _ => if_pos List.mem_cons_self, List.nil_append]
    exact List.Perm.of_eq (fam_congr fun s hs => if_neg (not_own ht (b := b) (subs_near ht b c) hs))
theorem Pc_step {b c : Int} {pre : List Int} (nd : (pre ++ [c]).Nodup) (hc : ∀ x ∈ pre ++ [c], x ∈ nearOf t.2 b) : (Pc t b (pre ++ [c])).Perm (prodL (Pc t b pre) (Pc t c (subs t b c) ++ [0])) := by
  have hcn := hc c (by simp)
  obtain ⟨m, hbc⟩ := (near_step ht).mp hcn
  unfold Pc
  rw [flatP_app ht, fam_app (G := fun s => Fcon t (b :: s)) (H := fun r => if tt t r + (if c ∈ r then 1 else 0) = r.length then some (Wo t r) else none) fun s hs r hr => by
    have A := ap_of ht nd hc hs hr
    unfold Fcon
    have l1 := tt_lt ht A.nds (by simp)
    have l2 : tt t r + (if c ∈ r then 1 else 0) ≤ r.length := by
      by_cases z : r = []
      · subst z
        rw [if_neg (by simp), tt_nil]
        exact Nat.le_refl _
      · have := tt_lt ht A.ndr z
        by_cases q : c ∈ r
        · rw [if_pos q]; omega
        · rw [if_neg q]; omega
    rw [tt_step ht hcn A.no A.st A.dis, ← List.cons_append, Wo_app, List.length_append]
    generalize (if c ∈ r then 1 else 0) = k at l2 ⊢
    by_cases h1 : tt t (b :: s) + 1 = (b :: s).length
    · by_cases h2 : tt t r + k = r.length
      · rw [if_pos (by omega), if_pos h1, if_pos h2]; rfl
      · rw [if_neg (by omega), if_pos h1, if_neg h2]; rfl
    · rw [if_neg (by omega), if_neg h1]; rfl]
  refine prodL_perm (List.Perm.refl _) ((fam_perm (fun s r h => ?_) (partL_perm ht hbc)).trans ?_)
  · show (if tt t s + (if c ∈ s then 1 else 0) = s.length then some (Wo t s) else none) = if tt t r + (if c ∈ r then 1 else 0) = r.length then some (Wo t r) else none
    rw [tt_perm h, Wo_perm h, h.length_eq]
    by_cases z : c ∈ s
    · rw [if_pos z, if_pos (h.mem_iff.mp z)]
    · rw [if_neg z, if_neg (fun q => z (h.mem_iff.mpr q))]
  · rw [fam_cons]
    refine List.Perm.of_eq (congr (congrArg _ ?_) ?_)
    · exact fam_congr fun s _ => by
        unfold Fcon
        rw [if_pos List.mem_cons_self]
    · obtain ⟨n1, _⟩ := flat_parts_nd ht (subs_nd ht b c) (subs_near ht b c)
      exact fam_nil_only fun s hs => by
        rw [if_neg (not_own ht (b := b) (subs_near ht b c) hs)]
        by_cases z : s = []
        · subst z
          rw [if_pos rfl, if_pos (show tt t [] + 0 = ([] : List Int).length from tt_nil t), Wo_nil]
        · have := tt_lt ht ((sbl_sub hs).nodup n1) z
          rw [if_neg z, if_neg (by omega)]
end

/-! ### the law's side: a small tree, all lists of places, ties within, worths -/
theorem btree9 (s : List Int) (most least : Int) (h1 : 1 ≤ most) (h2 : most ≤ 9) (l0 : -1000 ≤ least) (l1 : least ≤ 1000) : ∃ t, m_law_tree s most least = .ok t ∧ TreeOk t ∧ t.1.length ≤ 9 ∧ (∀ x ∈ t.1, x.natAbs < 2 ^ 99) := by
  obtain ⟨c0, e0⟩ := cell_ok s 0 (by decide)
  have z0 := Int.emod_nonneg c0 (show most ≠ 0 by omega)
  have z1 := Int.emod_lt_of_pos c0 (show 0 < most by omega)
  obtain ⟨m, hm⟩ : ∃ m, m = 1 + c0 % most := ⟨_, rfl⟩
  obtain ⟨ws, w1, w2, w3⟩ := worths_ok s m (by omega) (by omega)
  obtain ⟨ts, t1, t2, t3, t4⟩ := ties_ok s m least (by omega) (by omega) l0 l1
  refine ⟨(ws, ts), ?_, t2 ws w2, by show ws.length ≤ 9; omega, w3⟩
  unfold m_law_tree
  rw [bind_ok e0, if_neg (show ¬ (9 : Int) < most by omega), chk_b (by omega), if_neg (show ¬ (9 : Int) < most by omega), ← hm, bind_ok w1, bind_ok t1]
theorem law_tied_ok {t : Tr} (hn : t.2.length < 16777216) (s : List Int) : m_law_tied t s = .ok ((tt t s : Nat) : Int) := by
  unfold m_law_tied
  refine compS_pureB (fun z => if tin s z = true then some (1 : Int) else none) hn (fun z _ => ?_) ?_
  · show (if z.a ∈ s then _ else _) = _
    by_cases h1 : z.a ∈ s
    · rw [if_pos h1]
      by_cases h2 : z.b ∈ s
      · rw [if_pos h2, if_pos (tin_iff.mpr ⟨h1, h2⟩)]
      · rw [if_neg h2, if_neg (fun q => h2 (tin_iff.mp q).2)]
    · rw [if_neg h1, if_neg (fun q => h1 (tin_iff.mp q).1)]
  · refine congrArg (fun n : Nat => Except.ok (n : Int)) ?_
    show (t.2.filterMap _).length = tt t s
    unfold tt
    generalize t.2 = l
    induction l with
    | nil => rfl
    | cons z l ih =>
      rw [List.filterMap_cons, List.countP_cons]
      by_cases h : tin s z = true
      · rw [if_pos h, if_pos h, List.length_cons, ih]
      · rw [if_neg h, if_neg h, ih]
        rfl
theorem law_worth_ok {t : Tr} {s : List Int} (hl : s.length < 16777216) (hs : ∀ x ∈ s, 0 ≤ x ∧ x < (t.1.length : Int)) : m_law_worth_of t s = .ok (Wo t s) := by
  unfold m_law_worth_of
  refine compS_mapB (wt t) hl (fun x hx => ?_) rfl
  obtain ⟨own, o1, _⟩ := atI_some (xs := t.1) (hs x hx).1 (hs x hx).2
  rw [opt_b o1]
  unfold wt
  rw [o1]
  rfl
/-- the lists of places from k on, as the law goes through them -/
theorem law_some_ok (n : Nat) (hn : n ≤ 9) : ∃ F, m_law_some (n : Int) = .ok F ∧ F.Perm (sbl (rangeL 0 (n : Int))) := by
  unfold m_law_some
  rw [chk_b (show okR _ from ⟨by omega, by omega⟩), chk_b (show okR _ from ⟨by omega, by omega⟩)]
  have hd : ∀ i : Nat, i < n → (rangeD ((n : Int) - 1) (-(1 : Int)))[i]? = some ((n : Int) - 1 - i) := fun i hi => by
    unfold rangeD
    rw [List.getElem?_map, List.getElem?_range (by omega)]
    refine congrArg some ?_
    show (n : Int) - 1 + (i : Int) * -1 = _
    omega
  refine loopN_runB (fun pre st => (∃ r, st = [] :: r) ∧ pre.length ≤ n ∧ st.Perm (sbl (rangeL ((n : Int) - pre.length) (n : Int)))) ⟨⟨[], rfl⟩, Nat.zero_le _, ?_⟩ (fun pre y post st ea ⟨⟨r, e⟩, g1, g2⟩ => ?_) (fun st ⟨_, g1, g2⟩ => ⟨st, rfl, ?_⟩)
  · have : rangeL ((n : Int) - ((List.length ([] : List Int) : Nat) : Int)) (n : Int) = [] := by
      refine List.length_eq_zero_iff.mp ?_
      rw [rangeL_length]
      show ((n : Int) - ((n : Int) - ((0 : Nat) : Int))).toNat = 0
      omega
    rw [this]
    exact List.Perm.refl _
  · have hpl : pre.length < (rangeD ((n : Int) - 1) (-(1 : Int))).length := by rw [ea]; simp
    rw [rangeD_len] at hpl
    have hy : y = (n : Int) - 1 - pre.length := by
      have h1 : (rangeD ((n : Int) - 1) (-(1 : Int)))[pre.length]? = some y := by rw [ea, List.getElem?_append_right (Nat.le_refl _), Nat.sub_self]; rfl
      rw [hd _ (by omega)] at h1
      exact (Option.some.inj h1).symm
    have sl : st.length ≤ 512 := by
      rw [g2.length_eq, sbl_len, rangeL_length]
      exact Nat.le_trans (Nat.pow_le_pow_right (by decide) (show _ ≤ 9 by omega)) (by decide)
    have inner : ∀ z ∈ st, (fun (y57 : (List Int)) (st74 : Unit) =>
        chk (([y]).length + y57.length < 16777216) >>= fun _ =>
        (.ok (some (([y]) ++ y57), ()) : M _)) z () = .ok (some (y :: z), ()) := fun z hz => by
      have := sbl_sub (g2.mem_iff.mp hz)
      have := this.length_le
      rw [rangeL_length] at this
      show (chk (([y]).length + z.length < 16777216) >>= _) = _
      rw [chk_b (by show 1 + z.length < 16777216; omega)]
      rfl
    refine ⟨[] :: (st.map (y :: ·) ++ r), ?_, ⟨_, rfl⟩, by rw [List.length_append, List.length_singleton]; omega, ?_⟩
    · refine compS_mapB (y :: ·) (by omega) inner ?_
      dsimp only
      have ec : cutL st (some (1 : Int)) none = r := by
        rw [cut_drop _ _ (by decide), e]
        rfl
      have rl : r.length ≤ 512 := by
        rw [e, List.length_cons] at sl
        omega
      rw [chk_b (by rw [List.length_map]; show 1 + st.length < 16777216; omega), ec, chk_b (by
        rw [List.length_append, List.length_map]
        show 1 + st.length + r.length < 16777216
        omega)]
      refine congrArg Except.ok ?_
      show [] :: _ = _
      rfl
    · have er : rangeL ((n : Int) - ((pre ++ [y]).length : Nat)) (n : Int) = y :: rangeL ((n : Int) - (pre.length : Nat)) (n : Int) := by
        rw [List.length_append, List.length_singleton]
        refine List.ext_getElem? fun i => ?_
        unfold rangeL
        rw [show ((n : Int) - ((n : Int) - ((pre.length + 1 : Nat) : Int))).toNat = pre.length + 1 by omega, show ((n : Int) - ((n : Int) - (pre.length : Int))).toNat = pre.length by omega]
        cases i with
        | zero =>
          rw [List.getElem?_map, List.getElem?_range (by omega)]
          refine congrArg some ?_
          show (n : Int) - ((pre.length + 1 : Nat) : Int) + ((0 : Nat) : Int) = y
          omega
        | succ i =>
          rw [List.getElem?_cons_succ, List.getElem?_map, List.getElem?_map]
          by_cases q : i < pre.length
          · rw [List.getElem?_range (show i + 1 < pre.length + 1 by omega), List.getElem?_range q]
            refine congrArg some ?_
            show (n : Int) - ((pre.length + 1 : Nat) : Int) + ((i + 1 : Nat) : Int) = (n : Int) - (pre.length : Int) + (i : Int)
            omega
          · rw [List.getElem?_eq_none (show (List.range (pre.length + 1)).length ≤ i + 1 by rw [List.length_range]; omega), List.getElem?_eq_none (show (List.range pre.length).length ≤ i by rw [List.length_range]; omega)]
            rfl
      rw [er]
      show ([] :: (st.map (y :: ·) ++ r)).Perm ((sbl _).map (y :: ·) ++ sbl _)
      refine (List.perm_middle (l₁ := st.map (y :: ·)) (a := []) (l₂ := r)).symm.trans ?_
      rw [← e]
      exact (g2.map _).append g2
  · rw [rangeD_len] at g2
    rw [show (n : Int) - ((((n : Int) - 1 - -(1 : Int)).toNat : Nat) : Int) = 0 by omega] at g2
    exact g2
theorem sbl_rg {n : Nat} {s : List Int} (h : s ∈ sbl (rangeL 0 (n : Int))) : s.length ≤ n ∧ ∀ x ∈ s, 0 ≤ x ∧ x < (n : Int) := by
  have h1 := sbl_sub h
  have h2 := h1.length_le
  rw [rangeL_length] at h2
  exact ⟨by omega, fun x hx => rangeL_mem.mp (h1.subset hx)⟩
theorem sbl9_len {n : Nat} (hn : n ≤ 9) {F : List (List Int)} (h : F.Perm (sbl (rangeL 0 (n : Int)))) : F.length ≤ 512 := by
  rw [h.length_eq, sbl_len, rangeL_length]
  exact Nat.le_trans (Nat.pow_le_pow_right (by decide) (show _ ≤ 9 by omega)) (by decide)

/-! ### lists of places that hold some and leave out others -/
def sbk (h b : List Int) : List Int → List (List Int)
  | [] => [[]]
  | x :: xs => (if x ∈ b then [] else (sbk h b xs).map (x :: ·)) ++ (if x ∈ h then [] else sbk h b xs)
def famk (h b : List Int) (F : List Int → Option Int) (xs : List Int) : List Int := (sbk h b xs).filterMap F
section
variable {h b : List Int}
theorem sbk_sbl : ∀ {xs s : List Int}, s ∈ sbk h b xs → s ∈ sbl xs
  | [], _, e => e
  | x :: xs, s, e => by
    rcases List.mem_append.mp e with e | e
    · by_cases c : x ∈ b
      · rw [if_pos c] at e; exact nomatch e
      · rw [if_neg c] at e
        obtain ⟨r, hr, rfl⟩ := List.mem_map.mp e
        exact List.mem_append_left _ (List.mem_map.mpr ⟨r, sbk_sbl hr, rfl⟩)
    · by_cases c : x ∈ h
      · rw [if_pos c] at e; exact nomatch e
      · rw [if_neg c] at e
        exact List.mem_append_right _ (sbk_sbl e)
theorem sbk_app : ∀ (xs ys : List Int), sbk h b (xs ++ ys) = (sbk h b xs).flatMap fun s => (sbk h b ys).map (s ++ ·)
  | [], ys => by
    show sbk h b ys = ([[]] : List (List Int)).flatMap _
    simp
  | x :: xs, ys => by
    show (if x ∈ b then [] else (sbk h b (xs ++ ys)).map (x :: ·)) ++ (if x ∈ h then [] else sbk h b (xs ++ ys)) = ((if x ∈ b then [] else (sbk h b xs).map (x :: ·)) ++ (if x ∈ h then [] else sbk h b xs)).flatMap _
    rw [sbk_app xs ys, List.flatMap_append]
    congr 1
    · by_cases c : x ∈ b
      · rw [if_pos c, if_pos c]; rfl
      · rw [if_neg c, if_neg c, List.map_flatMap, List.flatMap_map]
        congr 1
        funext s
        rw [List.map_map]
        rfl
    · by_cases c : x ∈ h
      · rw [if_pos c, if_pos c]; rfl
      · rw [if_neg c, if_neg c]
theorem sbk_map_perm {α : Type} {xs ys : List Int} (hp : xs.Perm ys) : ∀ (F : List Int → α), (∀ s r, s.Perm r → F s = F r) → ((sbk h b xs).map F).Perm ((sbk h b ys).map F) := by
  induction hp with
  | nil => exact fun F _ => List.Perm.refl _
  | cons x hp ih =>
    intro F hF
    show (((if x ∈ b then [] else (sbk h b _).map (x :: ·)) ++ (if x ∈ h then [] else sbk h b _)).map F).Perm (((if x ∈ b then [] else (sbk h b _).map (x :: ·)) ++ (if x ∈ h then [] else sbk h b _)).map F)
    rw [List.map_append, List.map_append]
    refine List.Perm.append ?_ ?_
    · by_cases c : x ∈ b
      · rw [if_pos c, if_pos c]
      · rw [if_neg c, if_neg c, List.map_map, List.map_map]
        exact ih (F ∘ (x :: ·)) fun s r h => hF _ _ (h.cons x)
    · by_cases c : x ∈ h
      · rw [if_pos c, if_pos c]
      · rw [if_neg c, if_neg c]
        exact ih F hF
  | swap x y l =>
    intro F hF
    have e : (sbk h b l).map (F ∘ (fun x_1 => y :: x_1) ∘ fun x_1 => x :: x_1) = (sbk h b l).map (F ∘ (fun x_1 => x :: x_1) ∘ fun x_1 => y :: x_1) := List.map_congr_left fun s _ => hF _ _ (List.Perm.swap _ _ _)
    show (((if y ∈ b then [] else ((if x ∈ b then [] else (sbk h b l).map (x :: ·)) ++ (if x ∈ h then [] else sbk h b l)).map (y :: ·)) ++ (if y ∈ h then [] else ((if x ∈ b then [] else (sbk h b l).map (x :: ·)) ++ (if x ∈ h then [] else sbk h b l)))).map F).Perm (((if x ∈ b then [] else ((if y ∈ b then [] else (sbk h b l).map (y :: ·)) ++ (if y ∈ h then [] else sbk h b l)).map (x :: ·)) ++ (if x ∈ h then [] else ((if y ∈ b then [] else (sbk h b l).map (y :: ·)) ++ (if y ∈ h then [] else sbk h b l)))).map F)
    by_cases c1 : x ∈ b <;> by_cases c2 : y ∈ b <;> by_cases c3 : x ∈ h <;> by_cases c4 : y ∈ h <;> simp only [c1, c2, c3, c4, if_true, if_false, List.map_append, List.map_map, List.map_nil, List.nil_append, List.append_nil, e, List.Perm.refl]
    rw [List.append_assoc, List.append_assoc]
    refine List.Perm.append_left _ ?_
    rw [← List.append_assoc, ← List.append_assoc]
    exact List.Perm.append_right _ List.perm_append_comm
  | trans _ _ i1 i2 => exact fun F hF => (i1 F hF).trans (i2 F hF)
theorem famk_perm {F : List Int → Option Int} (hF : ∀ s r, s.Perm r → F s = F r) {xs ys : List Int} (hp : xs.Perm ys) : (famk h b F xs).Perm (famk h b F ys) := by
  have h1 := (sbk_map_perm (h := h) (b := b) hp F hF).filterMap id
  rw [List.filterMap_map, List.filterMap_map] at h1
  exact h1
theorem famk_cons (F : List Int → Option Int) (x : Int) (xs : List Int) : famk h b F (x :: xs) = (if x ∈ b then [] else famk h b (fun s => F (x :: s)) xs) ++ (if x ∈ h then [] else famk h b F xs) := by
  show ((if x ∈ b then [] else (sbk h b xs).map (x :: ·)) ++ (if x ∈ h then [] else sbk h b xs)).filterMap F = _
  rw [List.filterMap_append]
  congr 1
  · by_cases c : x ∈ b
    · rw [if_pos c, if_pos c]; rfl
    · rw [if_neg c, if_neg c, List.filterMap_map]; rfl
  · by_cases c : x ∈ h
    · rw [if_pos c, if_pos c]; rfl
    · rw [if_neg c, if_neg c]; rfl
theorem famk_congr {F G : List Int → Option Int} {xs : List Int} (e : ∀ s ∈ sbk h b xs, F s = G s) : famk h b F xs = famk h b G xs := PG.fm_congr e
theorem famk_none {F : List Int → Option Int} {xs : List Int} (e : ∀ s ∈ sbk h b xs, F s = none) : famk h b F xs = [] := List.filterMap_eq_nil_iff.mpr e
theorem famk_app {F G H : List Int → Option Int} {xs ys : List Int} (e : ∀ s ∈ sbk h b xs, ∀ r ∈ sbk h b ys, F (s ++ r) = oadd (G s) (H r)) : famk h b F (xs ++ ys) = prodL (famk h b G xs) (famk h b H ys) := by
  unfold famk prodL
  rw [sbk_app]
  generalize sbk h b xs = A at e
  induction A with
  | nil => rfl
  | cons s A ih =>
    rw [List.flatMap_cons, List.filterMap_append, ih fun s hs => e s (List.mem_cons_of_mem _ hs), List.filterMap_cons]
    have e := e s List.mem_cons_self
    have e2 : ((sbk h b ys).map (s ++ ·)).filterMap F = (sbk h b ys).filterMap fun r => oadd (G s) (H r) := by
      rw [List.filterMap_map]
      exact PG.fm_congr e
    rw [e2]
    cases G s with
    | none =>
      have : (sbk h b ys).filterMap (fun r => oadd none (H r)) = [] := List.filterMap_eq_nil_iff.mpr fun _ _ => rfl
      rw [this]
      rfl
    | some a =>
      show _ = List.flatMap _ (a :: _)
      rw [List.flatMap_cons]
      congr 1
      show _ = ((sbk h b ys).filterMap H).map _
      rw [List.map_filterMap]
      rfl
theorem sbk_triv : ∀ {xs : List Int}, (∀ x ∈ xs, x ∉ h ∧ x ∉ b) → sbk h b xs = sbl xs
  | [], _ => rfl
  | x :: xs, e => by
    show (if x ∈ b then [] else (sbk h b xs).map (x :: ·)) ++ (if x ∈ h then [] else sbk h b xs) = _
    rw [if_neg (e x List.mem_cons_self).2, if_neg (e x List.mem_cons_self).1, sbk_triv fun y hy => e y (List.mem_cons_of_mem _ hy)]
    rfl
/-- all decided: one list alone -/
theorem sbk_one : ∀ {xs : List Int}, (∀ x ∈ xs, x ∈ h ∧ x ∉ b ∨ x ∈ b ∧ x ∉ h) → sbk h b xs = [xs.filter fun x => decide (x ∈ h)]
  | [], _ => rfl
  | x :: xs, e => by
    show (if x ∈ b then [] else (sbk h b xs).map (x :: ·)) ++ (if x ∈ h then [] else sbk h b xs) = _
    rw [sbk_one fun y hy => e y (List.mem_cons_of_mem _ hy), List.filter_cons]
    rcases e x List.mem_cons_self with ⟨a, c⟩ | ⟨a, c⟩
    · rw [if_neg c, if_pos a, if_pos (decide_eq_true a), List.append_nil]; rfl
    · rw [if_pos a, if_neg c, if_neg (by simpa using c)]; rfl
end
/-! ### the greatest, or none -/
def omx (x y : Option Int) : Option Int := match x, y with
  | some a, some b => some (if b > a then b else a)
  | some a, none => some a
  | none, y => y
theorem mx_is {L : List Int} : (mxI L = none ∧ L = []) ∨ ∃ m, mxI L = some m ∧ m ∈ L ∧ ∀ y ∈ L, y ≤ m := by
  by_cases z : L = []
  · subst z; exact .inl ⟨rfl, rfl⟩
  · obtain ⟨m, hm⟩ := mxI_some z
    exact .inr ⟨m, hm, (mxI_is hm).1, (mxI_is hm).2⟩
theorem mx_eq {L : List Int} {m : Int} (h1 : m ∈ L) (h2 : ∀ y ∈ L, y ≤ m) : mxI L = some m := by
  rcases mx_is (L := L) with ⟨_, z⟩ | ⟨k, e, k1, k2⟩
  · rw [z] at h1; exact nomatch h1
  · have := h2 k k1
    have := k2 m h1
    rw [e, show k = m by omega]
theorem mx_perm {L M : List Int} (h : L.Perm M) : mxI L = mxI M := by
  rcases mx_is (L := M) with ⟨e, z⟩ | ⟨k, e, k1, k2⟩
  · subst z; rw [h.eq_nil]
  · rw [e]; exact mx_eq (h.mem_iff.mpr k1) fun y hy => k2 y (h.mem_iff.mp hy)
theorem mx_app (L M : List Int) : mxI (L ++ M) = omx (mxI L) (mxI M) := by
  rcases mx_is (L := L) with ⟨e, z⟩ | ⟨k, e, k1, k2⟩
  · subst z; rw [e, List.nil_append]; rfl
  · rcases mx_is (L := M) with ⟨f, z⟩ | ⟨j, f, j1, j2⟩
    · subst z; rw [e, f, List.append_nil, e]; rfl
    · rw [e, f]
      show _ = some (if j > k then j else k)
      by_cases c : j > k
      · rw [if_pos c]
        exact mx_eq (List.mem_append_right _ j1) fun y hy => (List.mem_append.mp hy).elim (fun a => by have := k2 y a; omega) (j2 y)
      · rw [if_neg c]
        exact mx_eq (List.mem_append_left _ k1) fun y hy => (List.mem_append.mp hy).elim (k2 y) (fun a => by have := j2 y a; omega)
theorem mx_prod (L M : List Int) : mxI (prodL L M) = oadd (mxI L) (mxI M) := by
  rcases mx_is (L := L) with ⟨e, z⟩ | ⟨k, e, k1, k2⟩
  · subst z; rw [e]; rfl
  · rcases mx_is (L := M) with ⟨f, z⟩ | ⟨j, f, j1, j2⟩
    · subst z
      have : prodL L [] = [] := by
        unfold prodL
        rw [List.flatMap_eq_nil_iff]
        exact fun _ _ => rfl
      rw [this, e, f]; rfl
    · rw [e, f]
      refine mx_eq (List.mem_flatMap.mpr ⟨k, k1, List.mem_map.mpr ⟨j, j1, rfl⟩⟩) fun y hy => ?_
      obtain ⟨x, hx, hy⟩ := List.mem_flatMap.mp hy
      obtain ⟨z, hz, rfl⟩ := List.mem_map.mp hy
      have := k2 x hx
      have := j2 z hz
      show x + z ≤ k + j
      omega

/-! ### the greatest sum of places no two of them tied, with some and without others -/
section
variable {h b : List Int} {t : Tr} (ht : TreeOk t)
/-- with p and without it, the kids told; p itself let be -/
noncomputable def W1 (h b : List Int) (t : Tr) (p : Int) (cs : List Int) : Option Int := mxI (famk h b (fun s => Find t (p :: s)) (flatP t p cs))
noncomputable def W0 (h b : List Int) (t : Tr) (p : Int) (cs : List Int) : Option Int := mxI (famk h b (Find t) (flatP t p cs))
/-- p told as well -/
def L1 (b : List Int) (p : Int) (w : Option Int) : Option Int := if p ∈ b then none else w
def L0 (h : List Int) (p : Int) (w : Option Int) : Option Int := if p ∈ h then none else w
include ht
theorem W1_nil (p : Int) : W1 h b t p [] = some (wt t p) := by
  show mxI (([[]] : List (List Int)).filterMap (fun s => Find t (p :: s))) = _
  rw [List.filterMap_cons]
  have : Find t [p] = some (wt t p) := by
    unfold Find
    rw [tt_one ht, if_pos rfl, Wo_cons, Wo_nil, Int.add_zero]
  rw [this]
  rfl
theorem W0_nil (p : Int) : W0 h b t p [] = some 0 := by
  show mxI (([[]] : List (List Int)).filterMap (Find t)) = _
  rw [List.filterMap_cons]
  have : Find t [] = some 0 := by
    unfold Find
    rw [tt_nil, if_pos rfl, Wo_nil]
  rw [this]
  rfl
theorem famk_part {F : List Int → Option Int} {p c l : Int} (hs : Step t p c l) (hF : ∀ s r, s.Perm r → F s = F r) : mxI (famk h b F (partL t p c)) = omx (L1 b c (mxI (famk h b (fun s => F (c :: s)) (flatP t c (subs t p c))))) (L0 h c (mxI (famk h b F (flatP t c (subs t p c))))) := by
  rw [mx_perm (famk_perm hF (partL_perm ht hs)), famk_cons, mx_app]
  unfold L1 L0 flatP
  congr 1
  · by_cases q : c ∈ b
    · rw [if_pos q, if_pos q]; rfl
    · rw [if_neg q, if_neg q]
  · by_cases q : c ∈ h
    · rw [if_pos q, if_pos q]; rfl
    · rw [if_neg q, if_neg q]
theorem W0_step {p c : Int} {pre : List Int} (nd : (pre ++ [c]).Nodup) (hc : ∀ x ∈ pre ++ [c], x ∈ nearOf t.2 p) : W0 h b t p (pre ++ [c]) = oadd (W0 h b t p pre) (omx (L1 b c (W1 h b t c (subs t p c))) (L0 h c (W0 h b t c (subs t p c)))) := by
  obtain ⟨m, hbc⟩ := (near_step ht).mp (hc c (by simp))
  unfold W0
  rw [flatP_app ht, famk_app (G := Find t) (H := Find t) fun s hs r hr => by
    have A := ap_of ht nd hc (sbk_sbl hs) (sbk_sbl hr)
    unfold Find
    rw [tt_app ht A.no, Wo_app]
    by_cases h1 : tt t s = 0
    · by_cases h2 : tt t r = 0
      · rw [if_pos (by omega), if_pos h1, if_pos h2]; rfl
      · rw [if_neg (by omega), if_pos h1, if_neg h2]; rfl
    · rw [if_neg (by omega), if_neg h1]; rfl]
  rw [mx_prod, famk_part ht hbc fun s r e => Find_perm e]
  rfl
theorem W1_step {p c : Int} {pre : List Int} (nd : (pre ++ [c]).Nodup) (hc : ∀ x ∈ pre ++ [c], x ∈ nearOf t.2 p) : W1 h b t p (pre ++ [c]) = oadd (W1 h b t p pre) (L0 h c (W0 h b t c (subs t p c))) := by
  have hcn := hc c (by simp)
  obtain ⟨m, hbc⟩ := (near_step ht).mp hcn
  unfold W1 W0
  rw [flatP_app ht, famk_app (G := fun s => Find t (p :: s)) (H := fun r => if c ∈ r then none else Find t r) fun s hs r hr => by
    have A := ap_of ht nd hc (sbk_sbl hs) (sbk_sbl hr)
    unfold Find
    rw [tt_step ht hcn A.no A.st A.dis, ← List.cons_append, Wo_app]
    by_cases h0 : c ∈ r
    · rw [if_pos h0, if_pos h0, if_neg (by omega)]
      by_cases h1 : tt t (p :: s) = 0
      · rw [if_pos h1]; rfl
      · rw [if_neg h1]; rfl
    · rw [if_neg h0, if_neg h0]
      by_cases h1 : tt t (p :: s) = 0
      · by_cases h2 : tt t r = 0
        · rw [if_pos (by omega), if_pos h1, if_pos h2]; rfl
        · rw [if_neg (by omega), if_pos h1, if_neg h2]; rfl
      · rw [if_neg (by omega), if_neg h1]; rfl]
  rw [mx_prod, famk_part ht hbc fun s r e => ?_]
  · have e1 : mxI (famk h b (fun s => if c ∈ c :: s then none else Find t (c :: s)) (flatP t c (subs t p c))) = none := by
      rw [famk_none fun s _ => if_pos List.mem_cons_self]
      rfl
    have e2 : famk h b (fun r => if c ∈ r then none else Find t r) (flatP t c (subs t p c)) = famk h b (Find t) (flatP t c (subs t p c)) := famk_congr fun s hs => if_neg (not_own ht (b := p) (subs_near ht p c) (sbk_sbl hs))
    rw [e1, e2]
    unfold L1
    rw [ite_self]
    rfl
  · show (if c ∈ s then none else Find t s) = if c ∈ r then none else Find t r
    rw [Find_perm e]
    by_cases z : c ∈ s
    · rw [if_pos z, if_pos (e.mem_iff.mp z)]
    · rw [if_neg z, if_neg (fun q => z (e.mem_iff.mpr q))]
theorem flatP_perm {p : Int} {cs ds : List Int} (e : cs.Perm ds) : (flatP t p cs).Perm (flatP t p ds) := e.flatMap_right _
theorem W1_perm {p : Int} {cs ds : List Int} (e : cs.Perm ds) : W1 h b t p cs = W1 h b t p ds := mx_perm (famk_perm (fun s r q => Find_perm (q.cons p)) (flatP_perm ht e))
theorem W0_perm {p : Int} {cs ds : List Int} (e : cs.Perm ds) : W0 h b t p cs = W0 h b t p ds := mx_perm (famk_perm (fun s r q => Find_perm q) (flatP_perm ht e))
theorem W_all {p : Int} (p0 : 0 ≤ p) (p1 : p < (t.1.length : Int)) : omx (L1 b p (W1 h b t p (nearOf t.2 p))) (L0 h p (W0 h b t p (nearOf t.2 p))) = mxI (famk h b (Find t) (rangeL 0 (t.1.length : Int))) := by
  rw [mx_perm (famk_perm (fun s r q => Find_perm q) (all_perm ht p0 p1)), famk_cons, mx_app]
  unfold L1 L0 W1 W0 flatP
  congr 1
  · by_cases q : p ∈ b
    · rw [if_pos q, if_pos q]; rfl
    · rw [if_neg q, if_neg q]
  · by_cases q : p ∈ h
    · rw [if_pos q, if_pos q]; rfl
    · rw [if_neg q, if_neg q]
end
/-! dicts -/
section
variable {β : Type}
theorem dI_cons (p : Int × β) (xs : List (Int × β)) (j : Int) : dGet (p :: xs) j = if p.1 = j then some p.2 else dGet xs j := by
  unfold dGet
  rw [List.find?_cons]
  by_cases e : p.1 = j
  · rw [if_pos e, decide_eq_true e]; rfl
  · rw [if_neg e, decide_eq_false e]
theorem dI_map (k : Int) (y : β) (j : Int) : ∀ xs : List (Int × β), dGet (xs.map fun p => if p.1 = k then (p.1, y) else p) j = if j = k then (dGet xs j).map (fun _ => y) else dGet xs j
  | [] => by
    by_cases c : j = k
    · rw [if_pos c]; rfl
    · rw [if_neg c]; rfl
  | p :: xs => by
    rw [List.map_cons, dI_cons, dI_cons, dI_map k y j xs]
    have e1 : (if p.1 = k then (p.1, y) else p).1 = p.1 := by
      by_cases c : p.1 = k
      · rw [if_pos c]
      · rw [if_neg c]
    rw [e1]
    by_cases c : p.1 = j
    · rw [if_pos c, if_pos c]
      by_cases d : j = k
      · rw [if_pos (c.trans d), if_pos d]; rfl
      · rw [if_neg (fun z => d (c.symm.trans z)), if_neg d]
    · rw [if_neg c, if_neg c]
theorem dI_snoc (k : Int) (y : β) (j : Int) : ∀ xs : List (Int × β), dGet (xs ++ [(k, y)]) j = if (dGet xs j).isSome = true then dGet xs j else if k = j then some y else none
  | [] => by
    rw [List.nil_append, dI_cons]
    rfl
  | p :: xs => by
    rw [List.cons_append, dI_cons, dI_cons, dI_snoc k y j xs]
    by_cases c : p.1 = j
    · rw [if_pos c, if_pos c]; rfl
    · rw [if_neg c, if_neg c]
theorem dI_any (k : Int) : ∀ xs : List (Int × β), (xs.any fun p => decide (p.1 = k)) = (dGet xs k).isSome
  | [] => rfl
  | p :: xs => by
    rw [List.any_cons, dI_cons, dI_any k xs]
    by_cases c : p.1 = k
    · rw [if_pos c, decide_eq_true c]; rfl
    · rw [if_neg c, decide_eq_false c]; rfl
theorem dGetI_put (xs : List (Int × β)) (k : Int) (y : β) (j : Int) : dGet (dPut xs k y) j = if j = k then some y else dGet xs j := by
  unfold dPut
  rw [dI_any]
  by_cases q : (dGet xs k).isSome = true
  · rw [if_pos q, dI_map]
    by_cases c : j = k
    · rw [if_pos c, if_pos c, c]
      obtain ⟨v, e⟩ := Option.isSome_iff_exists.mp q
      rw [e]; rfl
    · rw [if_neg c, if_neg c]
  · rw [if_neg q, dI_snoc]
    by_cases c : j = k
    · subst c
      rw [if_neg q, if_pos rfl, if_pos rfl]
    · rw [if_neg c, if_neg (show ¬ k = j from fun z => c z.symm)]
      cases dGet xs j with
      | none => rfl
      | some v => rfl
theorem dSetd_get (xs : List (Int × β)) (k : Int) (y : β) (j : Int) : dGet (dSetd xs k y) j = if j = k then some ((dGet xs k).getD y) else dGet xs j := by
  unfold dSetd
  cases e : dGet xs k with
  | none => exact dGetI_put xs k y j
  | some v =>
    by_cases c : j = k
    · rw [if_pos c, c, e]; rfl
    · rw [if_neg c]
theorem dPut_len (xs : List (Int × β)) (k : Int) (y : β) : (dPut xs k y).length ≤ xs.length + 1 := by
  unfold dPut
  by_cases c : (xs.any fun p => decide (p.1 = k)) = true
  · rw [if_pos c, List.length_map]; omega
  · rw [if_neg c, List.length_append]; exact Nat.le_refl _
theorem dSetd_len (xs : List (Int × β)) (k : Int) (y : β) : (dSetd xs k y).length ≤ xs.length + 1 := by
  unfold dSetd
  cases dGet xs k with
  | none => exact dPut_len xs k y
  | some v => exact Nat.le_succ _
theorem setdD_ok {xs : List (Int × β)} (k : Int) (y : β) (h : xs.length < 16777216) : setdD xs k y = .ok ((dGet xs k).getD y, dSetd xs k y) := if_pos h
theorem putI_ok {xs : List (Int × β)} (k : Int) (y : β) (h : xs.length < 16777216) : putD xs k y = .ok (dPut xs k y) := if_pos h
end

/-! ### what hangs at a place, by the order of all places -/
def kids (pre : List (Int × Option Int)) (q : Int) : List Int := (pre.filter fun z => decide (z.2 = some q)).map (·.1)
theorem kids_snoc (pre : List (Int × Option Int)) (z : Int × Option Int) (q : Int) : kids (pre ++ [z]) q = if z.2 = some q then kids pre q ++ [z.1] else kids pre q := by
  unfold kids
  rw [List.filter_append, List.map_append, List.filter_cons, List.filter_nil]
  by_cases c : z.2 = some q
  · rw [if_pos c, if_pos (decide_eq_true c)]; rfl
  · rw [if_neg c, if_neg (by simpa using c), List.map_nil, List.append_nil]
theorem kids_mem {pre : List (Int × Option Int)} {q c : Int} : c ∈ kids pre q ↔ (c, some q) ∈ pre := by
  unfold kids
  rw [List.mem_map]
  constructor
  · rintro ⟨z, hz, rfl⟩
    obtain ⟨h1, h2⟩ := List.mem_filter.mp hz
    have h2 : z.2 = some q := of_decide_eq_true h2
    rw [← h2]; exact h1
  · intro h
    exact ⟨_, List.mem_filter.mpr ⟨h, decide_eq_true rfl⟩, rfl⟩
theorem kids_nd {pre : List (Int × Option Int)} (nd : (pre.map (·.1)).Nodup) (q : Int) : (kids pre q).Nodup := nd.sublist ((List.filter_sublist).map _)
section
variable {t : Tr} (ht : TreeOk t) {s : Int} {fs : List (Int × Option Int)} (hg : HungOk t s fs)
include ht hg
theorem kid_near {p c : Int} (h : (c, some p) ∈ fs) : c ∈ nearOf t.2 p := by
  rcases hg.pa _ h with ⟨_, e⟩ | ⟨x, l, ps, d, e, hw, hs, nd⟩
  · exact nomatch e
  · have e : p = x := Option.some.inj e
    subst e
    exact (near_step ht).mpr ⟨l, hs⟩
theorem kid_not_up {p c a : Int} (h : (c, some p) ∈ fs) (h2 : (p, some a) ∈ fs) : c ≠ a := by
  rcases hg.pa _ h with ⟨_, e⟩ | ⟨x, l, ps, d, e, hw, hs, nd⟩
  · exact nomatch e
  · have e : p = x := Option.some.inj e
    subst e
    rcases hg.pa _ h2 with ⟨_, e⟩ | ⟨y, m, qs, d2, e, hw2, hs2, nd2⟩
    · exact nomatch e
    · have e : a = y := Option.some.inj e
      subst e
      have hw3 := way_snoc hw2 hs2
      have n1 : (s :: ps).Nodup := by
        rw [← List.cons_append] at nd
        exact (List.nodup_append.mp nd).1
      obtain ⟨e3, _⟩ := way_uniq ht hw hw3 n1 nd2
      have ha := way_mem hw2
      intro z
      subst z
      rw [e3, ← List.cons_append, ← List.cons_append] at nd
      exact (List.nodup_append.mp nd).2.2 c (List.mem_append_left _ ha) c (List.mem_singleton.mpr rfl) rfl
theorem kid_later {fs1 fs2 : List (Int × Option Int)} {p c : Int} {ab : Option Int} (e : fs = fs1 ++ (p, ab) :: fs2) (h : c ∈ nearOf t.2 p) (hne : some c ≠ ab) : (c, some p) ∈ fs2 := by
  have hz : (p, ab) ∈ fs := by rw [e]; simp
  obtain ⟨l, hs⟩ := (near_step ht).mp h
  have rg := step_rg ht hs
  have hp := Pa.next ht (hg.pa _ hz) hs hne
  obtain ⟨⟨c', a'⟩, hm, e1⟩ := List.mem_map.mp ((hg.all c).mpr rg.2.1)
  have e1 : c' = c := e1
  subst e1
  have e2 : a' = some p := Pa.uniq ht (hg.pa _ hm) hp
  subst e2
  obtain ⟨j, hj⟩ := List.mem_iff_getElem?.mp hm
  obtain ⟨i, b, hij, hi⟩ := hg.up j c' p hj
  have hi2 : fs[fs1.length]? = some (p, ab) := by rw [e, List.getElem?_append_right (Nat.le_refl _), Nat.sub_self]; rfl
  have hil := nd_key hg.nd hi hi2
  subst hil
  rw [e, List.getElem?_append_right (by omega)] at hj
  obtain ⟨k, hk⟩ : ∃ k, j - fs1.length = k + 1 := ⟨j - fs1.length - 1, by omega⟩
  rw [hk, List.getElem?_cons_succ] at hj
  exact List.mem_of_getElem? hj
theorem kids_root {fs2 : List (Int × Option Int)} {p : Int} (e : fs = (p, none) :: fs2) : (kids fs2.reverse p).Perm (nearOf t.2 p) := by
  have nd2 : (fs2.map (·.1)).Nodup := by
    have := hg.nd
    rw [e, List.map_cons] at this
    exact (List.nodup_cons.mp this).2
  refine (List.perm_ext_iff_of_nodup (kids_nd (by rw [List.map_reverse]; exact (List.reverse_perm _).nodup_iff.mpr nd2) p) (nr_nd ht p)).mpr fun c => ?_
  rw [kids_mem, List.mem_reverse]
  constructor
  · intro h
    exact kid_near ht hg (by rw [e]; exact List.mem_cons_of_mem _ h)
  · intro h
    exact kid_later ht hg (fs1 := []) e h fun z => nomatch z
theorem kids_sub {fs1 fs2 : List (Int × Option Int)} {p a : Int} (e : fs = fs1 ++ (p, some a) :: fs2) : (kids fs2.reverse p).Perm (subs t a p) := by
  have hz : (p, some a) ∈ fs := by rw [e]; simp
  have nd2 : (fs2.map (·.1)).Nodup := by
    have := hg.nd
    rw [e, List.map_append, List.map_cons] at this
    exact (List.nodup_cons.mp (List.nodup_append.mp this).2.1).2
  refine (List.perm_ext_iff_of_nodup (kids_nd (by rw [List.map_reverse]; exact (List.reverse_perm _).nodup_iff.mpr nd2) p) (subs_nd ht a p)).mpr fun c => ?_
  rw [kids_mem, List.mem_reverse]
  unfold subs
  rw [List.mem_filter]
  constructor
  · intro h
    have h1 : (c, some p) ∈ fs := by rw [e]; exact List.mem_append_right _ (List.mem_cons_of_mem _ h)
    exact ⟨kid_near ht hg h1, decide_eq_true (kid_not_up ht hg h1 hz)⟩
  · rintro ⟨h1, h2⟩
    exact kid_later ht hg e h1 fun z => (of_decide_eq_true h2) (Option.some.inj z)
end

/-! ### greatest_apart tells the greatest sum -/
abbrev DO := List (Int × Option Int)
theorem put_ok (d : DO) (a beg : Int) (more : Option Int) (h : d.length ≤ 1000000) : ∃ D, m_put_together d a beg more = .ok D ∧ (∀ j, dGet D j = if j = a then some (oadd ((dGet d a).getD (some beg)) more) else dGet d j) ∧ D.length ≤ d.length + 2 := by
  have l1 := dSetd_len d a (some beg)
  have lp : ∀ y, (dPut (dSetd d a (some beg)) a y).length ≤ d.length + 2 := fun y => by have := dPut_len (dSetd d a (some beg)) a y; omega
  have g : ∀ y j, dGet (dPut (dSetd d a (some beg)) a y) j = if j = a then some y else dGet d j := fun y j => by
    rw [dGetI_put, dSetd_get]
    by_cases c : j = a
    · rw [if_pos c, if_pos c]
    · rw [if_neg c, if_neg c, if_neg c]
  unfold m_put_together
  rw [bind_ok (setdD_ok a (some beg) (by omega))]
  dsimp only
  generalize (dGet d a).getD (some beg) = w
  cases w with
  | none =>
    rw [if_pos (show Option.isNone (none : Option Int) = true from rfl), bind_ok (putI_ok a none (by omega))]
    exact ⟨_, rfl, g none, lp _⟩
  | some w =>
    rw [if_neg (fun z => nomatch z), opt_b rfl]
    cases more with
    | none =>
      rw [if_pos (show Option.isNone (none : Option Int) = true from rfl), bind_ok (putI_ok a none (by omega))]
      exact ⟨_, rfl, g none, lp _⟩
    | some m =>
      rw [if_neg (fun z => nomatch z), opt_b rfl, bind_ok (putI_ok a _ (by omega))]
      exact ⟨_, rfl, g _, lp _⟩
def finA (t : Tr) (y : Int × Option Int) (d1 d2 : DO) (w1 w0 : Option Int) : M (Fl (DO × DO) (Option Int)) :=
  compS (fun (z : Option Int) (_ : Unit) => if (Option.isNone z) = true then (.ok (none, ())) else (opt z >>= fun v => .ok (some v, ()))) [(w1, w0).1, (w1, w0).2] () >>= fun q =>
  if (Option.isNone y.2) = true then (
  if q.1 ≠ ([] : List Int) then (opt (mxI q.1) >>= fun m => .ok (.rt (some m)))
  else (.ok (.rt (none : Option Int))))
  else (
  opt y.2 >>= fun a =>
  opt (atI t.1 a) >>= fun own =>
  m_put_together d1 a own w0 >>= fun r =>
  if q.1 ≠ ([] : List Int) then (
  opt (mxI q.1) >>= fun m =>
  m_put_together d2 a (0 : Int) (some m) >>= fun r2 =>
  .ok (.nx (r, r2)))
  else (
  m_put_together d2 a (0 : Int) (none : Option Int) >>= fun r2 =>
  .ok (.nx (r, r2))))
def two (w1 w0 : Option Int) : List Int := [w1, w0].filterMap id
theorem two_comp (w1 w0 : Option Int) : compS (fun (z : Option Int) (_ : Unit) => if (Option.isNone z) = true then (.ok (none, ())) else (opt z >>= fun v => (.ok (some v, ()) : M _))) [(w1, w0).1, (w1, w0).2] () = .ok (two w1 w0, ()) := by
  rw [compS_pure (fun z => z) (by show 2 < 16777216; decide) fun z _ => by
    cases z with
    | none => rfl
    | some v => rfl]
  rfl
theorem two_mx (w1 w0 : Option Int) : (two w1 w0 = [] ∧ omx w1 w0 = none) ∨ ∃ m, two w1 w0 ≠ [] ∧ mxI (two w1 w0) = some m ∧ omx w1 w0 = some m := by
  cases w1 with
  | none =>
    cases w0 with
    | none => exact .inl ⟨rfl, rfl⟩
    | some b => exact .inr ⟨b, (fun z => nomatch z), rfl, rfl⟩
  | some a =>
    cases w0 with
    | none => exact .inr ⟨a, (fun z => nomatch z), rfl, rfl⟩
    | some b =>
      refine .inr ⟨_, (fun z => nomatch z), ?_, rfl⟩
      show mxI ([a] ++ [b]) = _
      rw [mx_app]
      rfl
theorem fin_root {t : Tr} {p : Int} {d1 d2 : DO} {w1 w0 : Option Int} : finA t (p, none) d1 d2 w1 w0 = .ok (.rt (omx w1 w0)) := by
  unfold finA
  rw [bind_ok (two_comp w1 w0)]
  dsimp only
  rw [if_pos (show Option.isNone (none : Option Int) = true from rfl)]
  rcases two_mx w1 w0 with ⟨e1, e2⟩ | ⟨m, e1, e2, e3⟩
  · rw [if_neg (fun z => z e1), e2]
  · rw [if_pos e1, opt_b e2, e3]
theorem fin_up {t : Tr} {p a : Int} {d1 d2 : DO} {w1 w0 : Option Int} (a0 : 0 ≤ a) (a1 : a < (t.1.length : Int)) (h1 : d1.length ≤ 1000000) (h2 : d2.length ≤ 1000000) :
    ∃ D1 D2, finA t (p, some a) d1 d2 w1 w0 = .ok (.nx (D1, D2)) ∧ (∀ j, dGet D1 j = if j = a then some (oadd ((dGet d1 a).getD (some (wt t a))) w0) else dGet d1 j) ∧ (∀ j, dGet D2 j = if j = a then some (oadd ((dGet d2 a).getD (some 0)) (omx w1 w0)) else dGet d2 j) ∧ D1.length ≤ d1.length + 2 ∧ D2.length ≤ d2.length + 2 := by
  obtain ⟨own, o1, _⟩ := atI_some (xs := t.1) a0 a1
  have ow : wt t a = own := by unfold wt; rw [o1]; rfl
  obtain ⟨D1, k1, k2, k3⟩ := put_ok d1 a own w0 h1
  obtain ⟨D2, j1, j2, j3⟩ := put_ok d2 a 0 (omx w1 w0) h2
  refine ⟨D1, D2, ?_, by rw [ow]; exact k2, j2, k3, j3⟩
  unfold finA
  rw [bind_ok (two_comp w1 w0)]
  dsimp only
  rw [if_neg (show ¬ Option.isNone (some a) = true from fun z => nomatch z), opt_b rfl, opt_b o1, bind_ok k1]
  rcases two_mx w1 w0 with ⟨e1, e2⟩ | ⟨m, e1, e2, e3⟩
  · rw [if_neg (fun z => z e1)]
    rw [e2] at j1
    rw [bind_ok j1]
  · rw [if_pos e1, opt_b e2]
    rw [e3] at j1
    rw [bind_ok j1]
theorem loopM_last {i s r : Type} {f : i → s → M (Fl s r)} {y : i} {Q : r → Prop} (P : List i → s → Prop) : ∀ (post pre : List i) (x : s), P pre x → (∀ p z q x, pre ++ post = p ++ z :: q → P p x → ∃ x', f z x = .ok (.nx x') ∧ P (p ++ [z]) x') → (∀ x, P (pre ++ post) x → ∃ v, f y x = .ok (.rt v) ∧ Q v) → ∃ v, loopM f (post ++ [y]) x = .ok (.rt v) ∧ Q v
  | [], pre, x, h, _, hl => by
    rw [List.append_nil] at hl
    obtain ⟨v, e, q⟩ := hl x h
    refine ⟨v, ?_, q⟩
    show (f y x >>= _) = _
    rw [e]
    rfl
  | z :: post, pre, x, h, hs, hl => by
    obtain ⟨x', e, h'⟩ := hs pre z post x rfl h
    obtain ⟨v, e2, q⟩ := loopM_last P post (pre ++ [z]) x' h' (fun p w q2 x ew => hs p w q2 x (by rw [← ew, List.append_assoc]; rfl)) (fun x => by rw [List.append_assoc]; exact hl x)
    refine ⟨v, ?_, q⟩
    show (f z x >>= _) = _
    rw [e]
    exact e2
section
variable {t : Tr} (ht : TreeOk t) (hn : t.1.length ≤ 100000) {s : Int} {fs : List (Int × Option Int)} (hg : HungOk t s fs)
include ht hn hg
theorem ga_ok (h b : List Int) : m_greatest_apart t fs h b = .ok (mxI (famk h b (Find t) (rangeL 0 (t.1.length : Int)))) := by
  have hf0 := hg.hd
  obtain ⟨rest, er⟩ : ∃ rest, fs = (s, none) :: rest := by
    cases fs with
    | nil => exact nomatch hf0
    | cons z rest => exact ⟨rest, by rw [show z = (s, none) from Option.some.inj hf0]⟩
  have hlen := hg.len
  have rg : ∀ z ∈ fs, 0 ≤ z.1 ∧ z.1 < (t.1.length : Int) := fun z hz => (hg.all z.1).mp (List.mem_map.mpr ⟨z, hz, rfl⟩)
  have hs0 := rg (s, none) (by rw [er]; simp)
  unfold m_greatest_apart
  rw [er, List.reverse_cons]
  suffices key : ∃ v, loopM (fun (y31 : (Int × (Option Int))) (st42 : DO × DO) =>
      opt (atI t.1 y31.1) >>= fun y75 =>
      setdD st42.1 y31.1 (some y75) >>= fun t87 =>
      setdD st42.2 y31.1 (some (0 : Int)) >>= fun t97 =>
      if y31.1 ∈ b then (if y31.1 ∈ h then finA t y31 t87.2 t97.2 none none else finA t y31 t87.2 t97.2 none t97.1)
      else (if y31.1 ∈ h then finA t y31 t87.2 t97.2 t87.1 none else finA t y31 t87.2 t97.2 t87.1 t97.1)) (rest.reverse ++ [(s, none)]) ([], []) = .ok (.rt v) ∧ v = mxI (famk h b (Find t) (rangeL 0 (t.1.length : Int))) by
    obtain ⟨v, e, q⟩ := key
    refine (bind_ok (show loopM _ (rest.reverse ++ [(s, none)]) ([], []) = .ok (.rt v) from e) _).trans ?_
    rw [q]
  refine loopM_last (fun pre st => (∀ q, 0 ≤ q → q < (t.1.length : Int) → q ∉ pre.map (·.1) → (dGet st.1 q).getD (some (wt t q)) = W1 h b t q (kids pre q) ∧ (dGet st.2 q).getD (some 0) = W0 h b t q (kids pre q)) ∧ st.1.length ≤ 3 * pre.length ∧ st.2.length ≤ 3 * pre.length) rest.reverse [] ([], []) ?_ ?_ ?_
  · refine ⟨fun q q0 q1 _ => ?_, Nat.le_refl _, Nat.le_refl _⟩
    show some (wt t q) = W1 h b t q [] ∧ some 0 = W0 h b t q []
    rw [W1_nil ht, W0_nil ht]
    exact ⟨rfl, rfl⟩
  · intro pre z post st ea ⟨hv, l1, l2⟩
    rw [List.nil_append] at ea
    obtain ⟨p, ab⟩ := z
    have efs : fs = ((s, none) :: post.reverse) ++ (p, ab) :: pre.reverse := by
      rw [er]
      have := congrArg List.reverse ea
      rw [List.reverse_reverse, List.reverse_append, List.reverse_cons] at this
      rw [this]
      simp
    have hz : (p, ab) ∈ fs := by rw [efs]; simp
    have rp := rg _ hz
    have hpl : pre.length ≤ t.1.length := by
      rw [← hlen, efs]
      simp
      omega
    have ndf := hg.nd
    rw [efs, List.map_append, List.map_cons] at ndf
    have ndA := List.nodup_append.mp ndf
    have ndB := List.nodup_cons.mp ndA.2.1
    have hpn : p ∉ pre.map (·.1) := fun w => ndB.1 (by rw [List.map_reverse]; exact List.mem_reverse.mpr w)
    have hps : p ≠ s := fun w => ndA.2.2 s (by simp) p (by simp) w.symm
    obtain ⟨a, rfl⟩ : ∃ a, ab = some a := by
      cases ab with
      | none =>
        rcases hg.pa _ hz with ⟨e1, _⟩ | ⟨x, l, ps, d, e1, _⟩
        · exact (hps e1).elim
        · exact nomatch e1
      | some a => exact ⟨a, rfl⟩
    have hk := kids_sub ht hg (fs1 := (s, none) :: post.reverse) (fs2 := pre.reverse) efs
    rw [List.reverse_reverse] at hk
    obtain ⟨own, o1, _⟩ := atI_some (xs := t.1) rp.1 rp.2
    have ow : wt t p = own := by unfold wt; rw [o1]; rfl
    obtain ⟨v1, v0⟩ := hv p rp.1 rp.2 hpn
    rw [ow, W1_perm ht hk] at v1
    rw [W0_perm ht hk] at v0
    have hap := kid_near ht hg hz
    obtain ⟨l, hst⟩ := (near_step ht).mp hap
    have ra := (step_rg ht hst).1
    have s1 := dSetd_len st.1 p (some own)
    have s2 := dSetd_len st.2 p (some 0)
    -- the four ways are one
    have one : ∃ D1 D2, (opt (atI t.1 p) >>= fun y75 => setdD st.1 p (some y75) >>= fun t87 => setdD st.2 p (some (0 : Int)) >>= fun t97 =>
        if p ∈ b then (if p ∈ h then finA t (p, some a) t87.2 t97.2 none none else finA t (p, some a) t87.2 t97.2 none t97.1)
        else (if p ∈ h then finA t (p, some a) t87.2 t97.2 t87.1 none else finA t (p, some a) t87.2 t97.2 t87.1 t97.1)) = .ok (.nx (D1, D2)) ∧
        (∀ j, dGet D1 j = if j = a then some (oadd ((dGet (dSetd st.1 p (some own)) a).getD (some (wt t a))) (L0 h p (W0 h b t p (subs t a p)))) else dGet (dSetd st.1 p (some own)) j) ∧
        (∀ j, dGet D2 j = if j = a then some (oadd ((dGet (dSetd st.2 p (some 0)) a).getD (some 0)) (omx (L1 b p (W1 h b t p (subs t a p))) (L0 h p (W0 h b t p (subs t a p))))) else dGet (dSetd st.2 p (some 0)) j) ∧
        D1.length ≤ st.1.length + 3 ∧ D2.length ≤ st.2.length + 3 := by
      obtain ⟨D1, D2, k1, k2, k3, k4, k5⟩ := fin_up (t := t) (p := p) (a := a) (d1 := dSetd st.1 p (some own)) (d2 := dSetd st.2 p (some 0)) (w1 := L1 b p (W1 h b t p (subs t a p))) (w0 := L0 h p (W0 h b t p (subs t a p))) ra.1 ra.2 (by omega) (by omega)
      refine ⟨D1, D2, ?_, k2, k3, by omega, by omega⟩
      rw [opt_b o1, bind_ok (setdD_ok p (some own) (by omega)), bind_ok (setdD_ok p (some 0) (by omega))]
      dsimp only
      rw [v1, v0]
      unfold L1 L0 at k1
      by_cases cb : p ∈ b
      · rw [if_pos cb] at k1 ⊢
        by_cases ch : p ∈ h
        · rw [if_pos ch] at k1 ⊢; exact k1
        · rw [if_neg ch] at k1 ⊢; exact k1
      · rw [if_neg cb] at k1 ⊢
        by_cases ch : p ∈ h
        · rw [if_pos ch] at k1 ⊢; exact k1
        · rw [if_neg ch] at k1 ⊢; exact k1
    obtain ⟨D1, D2, k1, k2, k3, k4, k5⟩ := one
    refine ⟨(D1, D2), k1, fun q q0 q1 hq => ?_, by rw [List.length_append, List.length_singleton]; show D1.length ≤ _; omega, by rw [List.length_append, List.length_singleton]; show D2.length ≤ _; omega⟩
    have hq2 : q ∉ pre.map (·.1) ∧ q ≠ p := by
      rw [List.map_append, List.mem_append] at hq
      exact ⟨fun w => hq (.inl w), fun w => hq (.inr (by rw [w]; simp))⟩
    obtain ⟨u1, u0⟩ := hv q q0 q1 hq2.1
    rw [kids_snoc]
    show (dGet D1 q).getD _ = _ ∧ (dGet D2 q).getD _ = _
    rw [k2, k3]
    by_cases ca : q = a
    · subst ca
      have kn : (kids pre q ++ [p]).Nodup := by
        have h1 : ((pre ++ [(p, some q)]).map (·.1)).Nodup := by
          rw [List.map_append]
          refine List.nodup_append.mpr ⟨?_, by simp, fun x hx y hy w => ?_⟩
          · have := ndB.2
            rw [List.map_reverse] at this
            exact (List.reverse_perm _).nodup_iff.mp this
          · have hy : y = p := by simpa using hy
            rw [w, hy] at hx
            exact hpn hx
        have := kids_nd h1 q
        rw [kids_snoc, if_pos rfl] at this
        exact this
      have kc : ∀ x ∈ kids pre q ++ [p], x ∈ nearOf t.2 q := fun x hx => by
        rcases List.mem_append.mp hx with w | w
        · exact kid_near ht hg (by rw [efs]; exact List.mem_append_right _ (List.mem_cons_of_mem _ (List.mem_reverse.mpr (kids_mem.mp w))))
        · rw [List.mem_singleton.mp w]; exact hap
      rw [if_pos rfl, if_pos rfl, if_pos rfl, W1_step ht kn kc, W0_step ht kn kc, dSetd_get, dSetd_get, if_neg hq2.2, if_neg hq2.2, u1, u0]
      exact ⟨rfl, rfl⟩
    · rw [if_neg ca, if_neg ca, if_neg (fun w => ca (Option.some.inj w).symm), dSetd_get, dSetd_get, if_neg hq2.2, if_neg hq2.2]
      exact ⟨u1, u0⟩
  · intro st ⟨hv, l1, l2⟩
    rw [List.nil_append] at hv l1 l2
    have hnot : s ∉ rest.reverse.map (·.1) := fun w => by
      have := hg.nd
      rw [er, List.map_cons] at this
      exact (List.nodup_cons.mp this).1 (by rw [List.map_reverse] at w; exact List.mem_reverse.mp w)
    have hk := kids_root ht hg er
    obtain ⟨own, o1, _⟩ := atI_some (xs := t.1) hs0.1 hs0.2
    have ow : wt t s = own := by unfold wt; rw [o1]; rfl
    obtain ⟨v1, v0⟩ := hv s hs0.1 hs0.2 hnot
    rw [ow, W1_perm ht hk] at v1
    rw [W0_perm ht hk] at v0
    have hrl : rest.reverse.length ≤ t.1.length := by
      rw [List.length_reverse, ← hlen, er, List.length_cons]
      omega
    refine ⟨_, ?_, W_all ht hs0.1 hs0.2⟩
    rw [opt_b o1, bind_ok (setdD_ok s (some own) (by omega)), bind_ok (setdD_ok s (some 0) (by omega))]
    dsimp only
    rw [v1, v0]
    unfold L1 L0
    by_cases cb : s ∈ b
    · rw [if_pos cb, if_pos cb]
      by_cases ch : s ∈ h
      · rw [if_pos ch, if_pos ch, fin_root]
      · rw [if_neg ch, if_neg ch, fin_root]
    · rw [if_neg cb, if_neg cb]
      by_cases ch : s ∈ h
      · rw [if_pos ch, if_pos ch, fin_root]
      · rw [if_neg ch, if_neg ch, fin_root]
end

/-! ### all lists in order, the first one that .. -/
def en : List Int → List (List Int)
  | [] => [[]]
  | x :: xs => [] :: ((en xs).map (x :: ·) ++ (en xs).tail)
theorem en_head : ∀ xs : List Int, en xs = [] :: (en xs).tail
  | [] => rfl
  | _ :: _ => rfl
theorem en_mem : ∀ {xs s : List Int}, s ∈ en xs ↔ s ∈ sbl xs
  | [], _ => Iff.rfl
  | x :: xs, s => by
    show s ∈ [] :: ((en xs).map (x :: ·) ++ (en xs).tail) ↔ s ∈ (sbl xs).map (x :: ·) ++ sbl xs
    rw [List.mem_cons, List.mem_append, List.mem_append, List.mem_map, List.mem_map]
    constructor
    · rintro (e | ⟨r, hr, e⟩ | h)
      · subst e; exact .inr (sbl_nil_mem xs)
      · exact .inl ⟨r, en_mem.mp hr, e⟩
      · exact .inr (en_mem.mp (List.mem_of_mem_tail h))
    · rintro (⟨r, hr, e⟩ | h)
      · exact .inr (.inl ⟨r, en_mem.mpr hr, e⟩)
      · have := en_mem.mpr h
        rw [en_head, List.mem_cons] at this
        rcases this with e | h
        · exact .inl e
        · exact .inr (.inr h)
theorem en_find (P : List Int → Bool) (x : Int) (xs : List Int) : (en (x :: xs)).find? P = if P [] = true then some [] else (((en xs).find? fun s => P (x :: s)).map (x :: ·)).or ((en xs).find? P) := by
  show ([] :: ((en xs).map (x :: ·) ++ (en xs).tail)).find? P = _
  rw [List.find?_cons]
  by_cases c : P [] = true
  · rw [c, if_pos rfl]
  · rw [if_neg c, Bool.not_eq_true _ |>.mp c, List.find?_append, List.find?_map]
    have : (en xs).find? P = (en xs).tail.find? P := by
      rw [en_head, List.find?_cons, Bool.not_eq_true _ |>.mp c]
      rfl
    rw [this]
    rfl
theorem rangeL_cons {k n : Int} (h : k < n) : rangeL k n = k :: rangeL (k + 1) n := by
  refine List.ext_getElem? fun i => ?_
  unfold rangeL
  obtain ⟨m, hm⟩ : ∃ m : Nat, (n - k).toNat = m + 1 := ⟨(n - k).toNat - 1, by omega⟩
  rw [hm, show (n - (k + 1)).toNat = m by omega]
  cases i with
  | zero =>
    rw [List.getElem?_map, List.getElem?_range (by omega)]
    refine congrArg some ?_
    show k + ((0 : Nat) : Int) = k
    omega
  | succ i =>
    rw [List.getElem?_cons_succ, List.getElem?_map, List.getElem?_map]
    by_cases q : i < m
    · rw [List.getElem?_range (show i + 1 < m + 1 by omega), List.getElem?_range q]
      refine congrArg some ?_
      show k + ((i + 1 : Nat) : Int) = k + 1 + (i : Int)
      omega
    · rw [List.getElem?_eq_none (show (List.range (m + 1)).length ≤ i + 1 by rw [List.length_range]; omega), List.getElem?_eq_none (show (List.range m).length ≤ i by rw [List.length_range]; omega)]
      rfl
theorem rangeL_nil (n : Int) : rangeL n n = [] := by unfold rangeL; rw [Int.sub_self]; rfl
theorem rangeL_app {k n : Int} (k0 : 0 ≤ k) (h : k ≤ n) : rangeL 0 n = rangeL 0 k ++ rangeL k n := by
  refine List.ext_getElem? fun i => ?_
  by_cases q : i < k.toNat
  · rw [List.getElem?_append_left (by rw [rangeL_length]; omega)]
    unfold rangeL
    rw [List.getElem?_map, List.getElem?_map, List.getElem?_range (by omega), List.getElem?_range (by omega)]
  · rw [List.getElem?_append_right (by rw [rangeL_length]; omega), rangeL_length]
    unfold rangeL
    rw [List.getElem?_map, List.getElem?_map]
    by_cases q2 : i < n.toNat
    · rw [List.getElem?_range (by omega), List.getElem?_range (by omega)]
      refine congrArg some ?_
      show (0 : Int) + (i : Int) = k + ((i - (k - 0).toNat : Nat) : Int)
      omega
    · rw [List.getElem?_eq_none (by rw [List.length_range]; omega), List.getElem?_eq_none (by rw [List.length_range]; omega)]
      rfl
theorem tt_mono (t : Tr) {s r : List Int} (h : ∀ x ∈ s, x ∈ r) : tt t s ≤ tt t r := by
  unfold tt
  exact List.countP_mono_left fun z _ hz => tin_iff.mpr ⟨h _ (tin_iff.mp hz).1, h _ (tin_iff.mp hz).2⟩
/-- what is chosen up to k -/
structure Dec (k : Int) (held barred : List Int) : Prop where
  f : held = (rangeL 0 k).filter fun x => decide (x ∈ held)
  d : ∀ x, 0 ≤ x → x < k → x ∈ held ∧ x ∉ barred ∨ x ∈ barred ∧ x ∉ held
  b : ∀ x ∈ barred, x < k
  l : (barred.length : Int) ≤ k
theorem Dec.h {k : Int} {held barred : List Int} (D : Dec k held barred) : ∀ x ∈ held, 0 ≤ x ∧ x < k := fun x hx => by
  rw [D.f] at hx
  exact rangeL_mem.mp (List.mem_filter.mp hx).1
theorem Dec.take {k : Int} {held barred : List Int} (D : Dec k held barred) (k0 : 0 ≤ k) : Dec (k + 1) (held ++ [k]) barred where
  f := by
    rw [rangeL_app k0 (show k ≤ k + 1 by omega), rangeL_cons (show k < k + 1 by omega), rangeL_nil, List.filter_append]
    congr 1
    · refine D.f.trans (List.filter_congr fun x hx => ?_)
      have := rangeL_mem.mp hx
      refine decide_eq_decide.mpr ?_
      rw [List.mem_append, List.mem_singleton]
      exact ⟨.inl, fun w => w.elim id fun e => by omega⟩
    · rw [List.filter_cons, if_pos (by simp)]; rfl
  d := fun x x0 x1 => by
    by_cases c : x = k
    · exact .inl ⟨by rw [c]; simp, fun w => by have := D.b x w; omega⟩
    · rcases D.d x x0 (by omega) with ⟨a, b⟩ | ⟨a, b⟩
      · exact .inl ⟨List.mem_append_left _ a, b⟩
      · refine .inr ⟨a, fun w => ?_⟩
        rcases List.mem_append.mp w with w | w
        · exact b w
        · exact c (List.mem_singleton.mp w)
  b := fun x hx => by have := D.b x hx; omega
  l := by have := D.l; omega
theorem Dec.leave {k : Int} {held barred : List Int} (D : Dec k held barred) (k0 : 0 ≤ k) : Dec (k + 1) held (barred ++ [k]) where
  f := by
    rw [rangeL_app k0 (show k ≤ k + 1 by omega), rangeL_cons (show k < k + 1 by omega), rangeL_nil, List.filter_append]
    rw [List.filter_cons, if_neg (by
      rw [decide_eq_true_eq]
      exact fun w => by have := D.h k w; omega), List.filter_nil, List.append_nil]
    exact D.f
  d := fun x x0 x1 => by
    by_cases c : x = k
    · exact .inr ⟨by rw [c]; simp, fun w => by have := D.h x w; omega⟩
    · rcases D.d x x0 (by omega) with ⟨a, b⟩ | ⟨a, b⟩
      · refine .inl ⟨a, fun w => ?_⟩
        rcases List.mem_append.mp w with w | w
        · exact b w
        · exact c (List.mem_singleton.mp w)
      · exact .inr ⟨List.mem_append_left _ a, b⟩
  b := fun x hx => by
    rcases List.mem_append.mp hx with w | w
    · have := D.b x w; omega
    · rw [List.mem_singleton.mp w]; omega
  l := by rw [List.length_append, List.length_singleton]; have := D.l; omega
/-- the lists that keep to it -/
theorem Dec.sbk {k n : Int} {held barred : List Int} (D : Dec k held barred) (k0 : 0 ≤ k) (kn : k ≤ n) : sbk held barred (rangeL 0 n) = (sbl (rangeL k n)).map (held ++ ·) := by
  rw [rangeL_app k0 kn, sbk_app, sbk_one fun x hx => D.d x (rangeL_mem.mp hx).1 (rangeL_mem.mp hx).2, sbk_triv fun x hx => ⟨fun w => by have := D.h x w; have := rangeL_mem.mp hx; omega, fun w => by have := D.b x w; have := rangeL_mem.mp hx; omega⟩, ← D.f]
  rw [List.flatMap_singleton]
theorem dec0 : Dec 0 [] [] := ⟨rfl, fun x a b => by omega, (fun _ h => nomatch h), by decide⟩
/-! ### best_set -/
def bsF (t : Tr) (fs : List (Int × Option Int)) (M : Option Int) (y68 : Int) (st80 : (List Int) × (List Int)) : PG.M (Fl ((List Int) × (List Int)) (List Int)) :=
      compS (fun (y88 : Int) (st105 : Unit) =>
      opt (atI t.1 y88) >>= fun y116 =>
      .ok (some y116, ())) st80.1 () >>= fun q132 =>
      if (some (List.sum q132.1)) = M then (
      .ok (.rt st80.1))
      else (
      chk (st80.1.length + ([y68]).length < 16777216) >>= fun _ =>
      m_greatest_apart t fs (st80.1 ++ ([y68])) st80.2 >>= fun r170 =>
      if r170 = M then (
      appL st80.1 y68 >>= fun _ =>
      .ok (.nx ((st80.1 ++ [y68]), st80.2)))
      else (
      appL st80.2 y68 >>= fun _ =>
      .ok (.nx (st80.1, (st80.2 ++ [y68])))))
theorem loopM_nx {i s r : Type} {f : i → s → PG.M (Fl s r)} {x : i} {xs : List i} {a a' : s} (e : f x a = .ok (.nx a')) : loopM f (x :: xs) a = loopM f xs a' := by
  show (f x a >>= _) = _
  rw [e]
  rfl
theorem loopM_rt {i s r : Type} {f : i → s → PG.M (Fl s r)} {x : i} {xs : List i} {a : s} {v : r} (e : f x a = .ok (.rt v)) : loopM f (x :: xs) a = .ok (.rt v) := by
  show (f x a >>= _) = _
  rw [e]
  rfl
section
variable {t : Tr} (ht : TreeOk t) (hn : t.1.length ≤ 100000) {s : Int} {fs : List (Int × Option Int)} (hg : HungOk t s fs) {M : Int}
include ht hn hg
theorem bs_loop (hM : ∀ r ∈ sbl (rangeL 0 (t.1.length : Int)), ∀ v, Find t r = some v → v ≤ M) : ∀ (m : Nat) (k : Int), 0 ≤ k → k + m = (t.1.length : Int) → ∀ (held barred : List Int), Dec k held barred → (∃ r ∈ sbl (rangeL k (t.1.length : Int)), Find t (held ++ r) = some M) →
    ∃ r, (en (rangeL k (t.1.length : Int))).find? (fun r => decide (Find t (held ++ r) = some M)) = some r ∧ ∃ f, loopM (bsF t fs (some M)) (rangeL k (t.1.length : Int)) (held, barred) = .ok f ∧ (f = .rt (held ++ r) ∨ ∃ bb, f = .nx (held ++ r, bb))
  | 0, k, k0, hk, held, barred, D, ⟨r, hr, he⟩ => by
    have e : k = (t.1.length : Int) := by omega
    subst e
    rw [rangeL_nil] at hr ⊢
    have hr : r = [] := List.mem_singleton.mp hr
    subst hr
    refine ⟨[], ?_, _, rfl, .inr ⟨barred, by rw [List.append_nil]⟩⟩
    show ([[]] : List (List Int)).find? _ = _
    rw [List.find?_cons, decide_eq_true he]
  | m + 1, k, k0, hk, held, barred, D, ⟨r, hr, he⟩ => by
    have kn : k < (t.1.length : Int) := by omega
    rw [rangeL_cons kn] at hr ⊢
    have hl : held.length ≤ t.1.length := by
      have := (show held.Sublist (rangeL 0 k) from by have h := List.filter_sublist (l := rangeL 0 k) (p := fun x => decide (x ∈ held)); rw [← D.f] at h; exact h).length_le
      rw [rangeL_length] at this
      omega
    have hcomp : compS (fun (y88 : Int) (st105 : Unit) => opt (atI t.1 y88) >>= fun y116 => .ok (some y116, ())) held () = .ok (held.map (wt t), ()) := by
      rw [compS_pure (fun y => some (wt t y)) (by omega) fun x hx => by
        have := D.h x hx
        obtain ⟨own, o1, _⟩ := atI_some (xs := t.1) this.1 (by omega : x < (t.1.length : Int))
        rw [opt_b o1]
        unfold wt
        rw [o1]
        rfl]
      rw [List.filterMap_eq_map']
    have hW : List.sum (held.map (wt t)) = Wo t held := rfl
    have t0 : tt t held = 0 := by
      have h1 : tt t (held ++ r) = 0 := by
        unfold Find at he
        by_cases c : tt t (held ++ r) = 0
        · exact c
        · rw [if_neg c] at he; exact nomatch he
      have := tt_mono t (s := held) (r := held ++ r) fun x hx => List.mem_append_left _ hx
      omega
    have hF : Find t held = some (Wo t held) := by unfold Find; rw [if_pos t0]
    rw [en_find]
    by_cases c : Wo t held = M
    · refine ⟨[], ?_, .rt held, ?_, .inl (by rw [List.append_nil])⟩
      · rw [if_pos]
        rw [List.append_nil, hF, c]
        exact decide_eq_true rfl
      · refine loopM_rt ?_
        unfold bsF
        rw [bind_ok hcomp]
        dsimp only
        rw [hW, c, if_pos rfl]
    · have p0 : ¬ decide (Find t (held ++ []) = some M) = true := fun z => by
        have z := of_decide_eq_true z
        rw [List.append_nil, hF] at z
        exact c (Option.some.inj z)
      rw [if_neg p0]
      have DT := D.take k0
      have ega := ga_ok ht hn hg (held ++ [k]) barred
      have esb := DT.sbk (n := (t.1.length : Int)) (by omega) (by omega)
      by_cases q : ∃ r' ∈ sbl (rangeL (k + 1) (t.1.length : Int)), Find t ((held ++ [k]) ++ r') = some M
      · obtain ⟨r', hr', he'⟩ := q
        have mx : mxI (famk (held ++ [k]) barred (Find t) (rangeL 0 (t.1.length : Int))) = some M := by
          have hin : (held ++ [k]) ++ r' ∈ sbk (held ++ [k]) barred (rangeL 0 (t.1.length : Int)) := by rw [esb]; exact List.mem_map.mpr ⟨r', hr', rfl⟩
          refine mx_eq (List.mem_filterMap.mpr ⟨_, hin, he'⟩) fun y hy => ?_
          obtain ⟨z, hz, ez⟩ := List.mem_filterMap.mp hy
          exact hM z (sbk_sbl hz) y ez
        obtain ⟨r0, f0, fl, g1, g2⟩ := bs_loop hM m (k + 1) (by omega) (by omega) (held ++ [k]) barred DT ⟨r', hr', he'⟩
        refine ⟨k :: r0, ?_, fl, ?_, ?_⟩
        · have : (fun s => decide (Find t (held ++ (k :: s)) = some M)) = fun s => decide (Find t ((held ++ [k]) ++ s) = some M) := funext fun s => by rw [List.append_assoc]; rfl
          rw [this, f0]
          rfl
        · rw [← g1]
          refine loopM_nx ?_
          unfold bsF
          rw [bind_ok hcomp]
          dsimp only
          rw [hW, if_neg (fun z => c (Option.some.inj z)), chk_b (by show held.length + 1 < _; omega), bind_ok ega, mx, if_pos rfl, bind_ok (appL_ok (by omega))]
        · rw [List.append_assoc] at g2
          exact g2
      · have mx : mxI (famk (held ++ [k]) barred (Find t) (rangeL 0 (t.1.length : Int))) ≠ some M := fun z => by
          rcases mx_is (L := famk (held ++ [k]) barred (Find t) (rangeL 0 (t.1.length : Int))) with ⟨e, _⟩ | ⟨y, e, hy, _⟩
          · rw [e] at z; exact nomatch z
          · rw [e] at z
            have z := Option.some.inj z
            subst z
            obtain ⟨w, hw, ew⟩ := List.mem_filterMap.mp hy
            rw [esb] at hw
            obtain ⟨r', hr', rfl⟩ := List.mem_map.mp hw
            exact q ⟨r', hr', ew⟩
        have hr2 : r ∈ sbl (rangeL (k + 1) (t.1.length : Int)) := by
          rcases List.mem_append.mp hr with w | w
          · obtain ⟨r', hr', rfl⟩ := List.mem_map.mp w
            exact (q ⟨r', hr', by rw [List.append_assoc]; exact he⟩).elim
          · exact w
        have bl := D.l
        obtain ⟨r0, f0, fl, g1, g2⟩ := bs_loop hM m (k + 1) (by omega) (by omega) held (barred ++ [k]) (D.leave k0) ⟨r, hr2, he⟩
        refine ⟨r0, ?_, fl, ?_, g2⟩
        · have : ((en (rangeL (k + 1) (t.1.length : Int))).find? fun s => decide (Find t (held ++ (k :: s)) = some M)) = none := List.find?_eq_none.mpr fun s hs z => q ⟨s, en_mem.mp hs, by rw [List.append_assoc]; exact of_decide_eq_true z⟩
          rw [this]
          exact f0
        · rw [← g1]
          refine loopM_nx ?_
          unfold bsF
          rw [bind_ok hcomp]
          dsimp only
          rw [hW, if_neg (fun z => c (Option.some.inj z)), chk_b (by show held.length + 1 < _; omega), bind_ok ega, if_neg mx, bind_ok (appL_ok (by omega))]
end

/-! ### the law's own lists, in order -/
theorem law_some_en (n : Nat) (hn : n ≤ 9) : m_law_some (n : Int) = .ok (en (rangeL 0 (n : Int))) := by
  unfold m_law_some
  rw [chk_b (show okR _ from ⟨by omega, by omega⟩), chk_b (show okR _ from ⟨by omega, by omega⟩)]
  have hd : ∀ i : Nat, i < n → (rangeD ((n : Int) - 1) (-(1 : Int)))[i]? = some ((n : Int) - 1 - i) := fun i hi => by
    unfold rangeD
    rw [List.getElem?_map, List.getElem?_range (by omega)]
    refine congrArg some ?_
    show (n : Int) - 1 + (i : Int) * -1 = _
    omega
  refine ok_of ?_
  refine loopN_runB (fun pre st => pre.length ≤ n ∧ st = en (rangeL ((n : Int) - pre.length) (n : Int))) ⟨Nat.zero_le _, ?_⟩ (fun pre y post st ea ⟨g1, g2⟩ => ?_) (fun st ⟨_, g2⟩ => ⟨st, rfl, ?_⟩)
  · rw [show (n : Int) - ((List.length ([] : List Int) : Nat) : Int) = (n : Int) by simp, rangeL_nil]
    rfl
  · have hpl : pre.length < (rangeD ((n : Int) - 1) (-(1 : Int))).length := by rw [ea]; simp
    rw [rangeD_len] at hpl
    have hy : y = (n : Int) - 1 - pre.length := by
      have h1 : (rangeD ((n : Int) - 1) (-(1 : Int)))[pre.length]? = some y := by rw [ea, List.getElem?_append_right (Nat.le_refl _), Nat.sub_self]; rfl
      rw [hd _ (by omega)] at h1
      exact (Option.some.inj h1).symm
    have mem : ∀ z ∈ st, z.length ≤ 9 := fun z hz => by
      rw [g2] at hz
      have := (sbl_sub (en_mem.mp hz)).length_le
      rw [rangeL_length] at this
      omega
    have len : ∀ xs : List Int, (en xs).length = 2 ^ xs.length := fun xs => by
      induction xs with
      | nil => rfl
      | cons x xs ih =>
        show ([] :: ((en xs).map (x :: ·) ++ (en xs).tail)).length = _
        have : 1 ≤ 2 ^ xs.length := Nat.one_le_two_pow
        rw [List.length_cons, List.length_append, List.length_map, List.length_tail, ih, List.length_cons, Nat.pow_succ]
        omega
    have sl : st.length ≤ 512 := by
      rw [g2, len, rangeL_length]
      exact Nat.le_trans (Nat.pow_le_pow_right (by decide) (show _ ≤ 9 by omega)) (by decide)
    refine ⟨[] :: (st.map (y :: ·) ++ st.tail), ?_, by rw [List.length_append, List.length_singleton]; omega, ?_⟩
    · refine compS_mapB (y :: ·) (by omega) (fun z hz => ?_) ?_
      · have := mem z hz
        rw [chk_b (by show 1 + z.length < 16777216; omega)]
        rfl
      dsimp only
      have ec : cutL st (some (1 : Int)) none = st.tail := by
        rw [cut_drop _ _ (by decide), ← List.drop_one]
        rfl
      rw [chk_b (by rw [List.length_map]; show 1 + st.length < 16777216; omega), ec, chk_b (by
        rw [List.length_append, List.length_map, List.length_tail]
        show 1 + st.length + (st.length - 1) < 16777216
        omega)]
      rfl
    · have er : rangeL ((n : Int) - ((pre ++ [y]).length : Nat)) (n : Int) = y :: rangeL ((n : Int) - (pre.length : Nat)) (n : Int) := by
        rw [List.length_append, List.length_singleton, rangeL_cons (by omega)]
        rw [show (n : Int) - ((pre.length + 1 : Nat) : Int) = y by omega, show y + 1 = (n : Int) - (pre.length : Int) by omega]
      rw [er, g2]
      rfl
  · rw [rangeD_len] at g2
    rw [show (n : Int) - ((((n : Int) - 1 - -(1 : Int)).toNat : Nat) : Int) = 0 by omega] at g2
    exact g2
/-- the first one of the greatest -/
theorem law_best_ok {t : Tr} {xs : List (List Int)} (hx : ∀ s ∈ xs, s.length < 16777216 ∧ ∀ x ∈ s, 0 ≤ x ∧ x < (t.1.length : Int)) {M : Int} (hM : ∃ s ∈ xs, Wo t s = M) (hle : ∀ s ∈ xs, Wo t s ≤ M) : m_law_best t xs = .ok (xs.find? fun s => decide (Wo t s = M)) := by
  unfold m_law_best
  refine ok_of ?_
  refine loopN_runB (fun pre st => (pre = [] ∧ st = none) ∨ ∃ z, st = some z ∧ z ∈ pre ∧ (pre.find? fun s => decide (Wo t s = Wo t z)) = some z ∧ ∀ s ∈ pre, Wo t s ≤ Wo t z) (.inl ⟨rfl, rfl⟩) (fun pre y post st ea P => ?_) (fun st P => ?_)
  · have hy := hx y (by rw [ea]; simp)
    rcases P with ⟨e1, e2⟩ | ⟨z, e1, e2, e3, e4⟩
    · subst e1 e2
      refine ⟨some y, by rw [if_pos (show Option.isNone (none : Option (List Int)) = true from rfl)], .inr ⟨y, rfl, by simp, ?_, fun s hs => ?_⟩⟩
      · rw [List.nil_append, List.find?_cons, decide_eq_true rfl]
      · have hs : s = y := by simpa using hs
        rw [hs]; exact Int.le_refl _
    · subst e1
      have hz := hx z (by rw [ea]; exact List.mem_append_left _ e2)
      by_cases c : Wo t z < Wo t y
      · refine ⟨some y, by rw [if_neg (show ¬ Option.isNone (some z) = true from fun w => nomatch w), opt_b rfl, bind_ok (law_worth_ok hy.1 hy.2), bind_ok (law_worth_ok hz.1 hz.2), if_pos c], .inr ⟨y, rfl, by simp, ?_, fun s hs => ?_⟩⟩
        · rw [List.find?_append, List.find?_eq_none.mpr fun s hs w => by have := e4 s hs; have := of_decide_eq_true w; omega, List.find?_cons, decide_eq_true rfl]
          rfl
        · rcases List.mem_append.mp hs with w | w
          · have := e4 s w; omega
          · rw [List.mem_singleton.mp w]; exact Int.le_refl _
      · refine ⟨some z, by rw [if_neg (show ¬ Option.isNone (some z) = true from fun w => nomatch w), opt_b rfl, bind_ok (law_worth_ok hy.1 hy.2), bind_ok (law_worth_ok hz.1 hz.2), if_neg c], .inr ⟨z, rfl, List.mem_append_left _ e2, ?_, fun s hs => ?_⟩⟩
        · rw [List.find?_append, e3]
          rfl
        · rcases List.mem_append.mp hs with w | w
          · exact e4 s w
          · rw [List.mem_singleton.mp w]; omega
  · refine ⟨st, rfl, ?_⟩
    obtain ⟨s0, h1, h2⟩ := hM
    rcases P with ⟨e1, _⟩ | ⟨z, e1, e2, e3, e4⟩
    · rw [e1] at h1; exact nomatch h1
    · have a := e4 s0 h1
      have b := hle z e2
      have e : Wo t z = M := by omega
      rw [e1, ← e3, e]
theorem best_set_ok {t : Tr} (ht : TreeOk t) (hn : t.1.length ≤ 100000) : ∃ M r, (∀ s ∈ sbl (rangeL 0 (t.1.length : Int)), ∀ v, Find t s = some v → v ≤ M) ∧ ((en (rangeL 0 (t.1.length : Int))).find? fun s => decide (Find t s = some M)) = some r ∧ m_best_set t = .ok r := by
  have hpos := ht.pos
  obtain ⟨fs, h1, hg⟩ := hung_ok t ht hn (s := 0) (by decide) (by omega)
  have h2 := ga_ok ht hn hg [] []
  have e0 : famk [] [] (Find t) (rangeL 0 (t.1.length : Int)) = fam (Find t) (rangeL 0 (t.1.length : Int)) := by
    unfold famk fam
    rw [sbk_triv (h := []) (b := []) fun x _ => ⟨List.not_mem_nil, List.not_mem_nil⟩]
  rw [e0] at h2
  have ne : fam (Find t) (rangeL 0 (t.1.length : Int)) ≠ [] := fam_has (v := 0) (by unfold Find; rw [tt_nil, if_pos rfl]; rfl)
  rcases mx_is (L := fam (Find t) (rangeL 0 (t.1.length : Int))) with ⟨_, z⟩ | ⟨M, e, m1, m2⟩
  · exact (ne z).elim
  · rw [e] at h2
    have hM : ∀ s ∈ sbl (rangeL 0 (t.1.length : Int)), ∀ v, Find t s = some v → v ≤ M := fun s hs v hv => m2 v (List.mem_filterMap.mpr ⟨s, hs, hv⟩)
    obtain ⟨s0, hs0, es0⟩ := List.mem_filterMap.mp m1
    obtain ⟨r, f1, fl, g1, g2⟩ := bs_loop ht hn hg hM t.1.length 0 (Int.le_refl 0) (by omega) [] [] dec0 ⟨s0, hs0, es0⟩
    refine ⟨M, r, hM, f1, ?_⟩
    unfold m_best_set
    rw [bind_ok h1, bind_ok h2, chk_b (show okR (t.1.length : Int) from ⟨by omega, by omega⟩)]
    refine (bind_ok (show loopM _ (rangeL 0 (t.1.length : Int)) ([], []) = .ok fl from g1) _).trans ?_
    rcases g2 with e | ⟨bb, e⟩
    · rw [e]; rfl
    · rw [e]; rfl

/-! ### the greatest sum of places that hang together with the seat, with some and without others -/
noncomputable def Wp (h b : List Int) (t : Tr) (p : Int) (cs : List Int) : Option Int := mxI (famk h b (fun s => Fcon t (p :: s)) (flatP t p cs))
noncomputable def hin (h : List Int) (t : Tr) (p c : Int) : Bool := (partL t p c).any fun x => decide (x ∈ h)
def Fse (t : Tr) (s : Int) (r : List Int) : Option Int := if s ∈ r then Fcon t r else none
theorem Fse_perm {t : Tr} {p : Int} {s r : List Int} (e : s.Perm r) : Fse t p s = Fse t p r := by
  unfold Fse
  rw [Fcon_perm e]
  by_cases z : p ∈ s
  · rw [if_pos z, if_pos (e.mem_iff.mp z)]
  · rw [if_neg z, if_neg (fun q => z (e.mem_iff.mpr q))]
theorem famk_nil_only {h b : List Int} {F : List Int → Option Int} {v : Int} : ∀ {xs : List Int}, (∀ s ∈ sbk h b xs, F s = if s = [] then some v else none) → famk h b F xs = if (xs.any fun x => decide (x ∈ h)) = true then [] else [v]
  | [], e => by
    show ([[]] : List (List Int)).filterMap F = _
    rw [List.filterMap_cons, e [] (List.mem_singleton.mpr rfl)]
    rfl
  | x :: xs, e => by
    rw [famk_cons]
    have e1 : (if x ∈ b then [] else famk h b (fun s => F (x :: s)) xs) = [] := by
      by_cases c : x ∈ b
      · rw [if_pos c]
      · rw [if_neg c]
        exact famk_none fun s hs => by
          rw [e (x :: s) (List.mem_append_left _ (by rw [if_neg c]; exact List.mem_map.mpr ⟨s, hs, rfl⟩))]
          rfl
    rw [e1, List.nil_append, List.any_cons]
    by_cases c : x ∈ h
    · rw [if_pos c, decide_eq_true c]; rfl
    · rw [if_neg c, decide_eq_false c, Bool.false_or, famk_nil_only fun s hs => e s (List.mem_append_right _ (by rw [if_neg c]; exact hs))]
section
variable {h b : List Int} {t : Tr} (ht : TreeOk t)
include ht
theorem Wp_nil (p : Int) : Wp h b t p [] = some (wt t p) := by
  show mxI (([[]] : List (List Int)).filterMap (fun s => Fcon t (p :: s))) = _
  rw [List.filterMap_cons]
  have : Fcon t [p] = some (wt t p) := by
    unfold Fcon
    rw [tt_one ht, if_pos (show 0 + 1 = [p].length from rfl), Wo_cons, Wo_nil, Int.add_zero]
  rw [this]
  rfl
theorem hin_split {p c l : Int} (hs : Step t p c l) : hin h t p c = (decide (c ∈ h) || (subs t p c).any (hin h t c)) := by
  unfold hin
  rw [Bool.eq_iff_iff, List.any_eq_true, Bool.or_eq_true, decide_eq_true_eq, List.any_eq_true]
  have pm := partL_perm ht hs
  constructor
  · rintro ⟨x, hx, e⟩
    rcases List.mem_cons.mp (pm.mem_iff.mp hx) with w | w
    · subst w; exact .inl (of_decide_eq_true e)
    · obtain ⟨d, hd, hx2⟩ := List.mem_flatMap.mp w
      exact .inr ⟨d, hd, List.any_eq_true.mpr ⟨x, hx2, e⟩⟩
  · rintro (w | ⟨d, hd, w⟩)
    · exact ⟨c, pm.mem_iff.mpr List.mem_cons_self, decide_eq_true w⟩
    · obtain ⟨x, hx, e⟩ := List.any_eq_true.mp w
      exact ⟨x, pm.mem_iff.mpr (List.mem_cons_of_mem _ (List.mem_flatMap.mpr ⟨d, hd, hx⟩)), e⟩
theorem any_flat (c : Int) (cs : List Int) : ((flatP t c cs).any fun x => decide (x ∈ h)) = cs.any (hin h t c) := by
  unfold flatP hin
  rw [List.any_flatMap]
theorem Wp_step {p c : Int} {pre : List Int} (nd : (pre ++ [c]).Nodup) (hc : ∀ x ∈ pre ++ [c], x ∈ nearOf t.2 p) : Wp h b t p (pre ++ [c]) = oadd (Wp h b t p pre) (omx (L1 b c (Wp h b t c (subs t p c))) (if hin h t p c = true then none else some 0)) := by
  have hcn := hc c (by simp)
  obtain ⟨m, hbc⟩ := (near_step ht).mp hcn
  unfold Wp
  rw [flatP_app ht, famk_app (G := fun s => Fcon t (p :: s)) (H := fun r => if tt t r + (if c ∈ r then 1 else 0) = r.length then some (Wo t r) else none) fun s hs r hr => by
    have A := ap_of ht nd hc (sbk_sbl hs) (sbk_sbl hr)
    unfold Fcon
    have l1 := tt_lt ht A.nds (by simp)
    have l2 : tt t r + (if c ∈ r then 1 else 0) ≤ r.length := by
      by_cases z : r = []
      · subst z
        rw [if_neg (by simp), tt_nil]
        exact Nat.le_refl _
      · have := tt_lt ht A.ndr z
        by_cases q : c ∈ r
        · rw [if_pos q]; omega
        · rw [if_neg q]; omega
    rw [tt_step ht hcn A.no A.st A.dis, ← List.cons_append, Wo_app, List.length_append]
    generalize (if c ∈ r then 1 else 0) = k at l2 ⊢
    by_cases h1 : tt t (p :: s) + 1 = (p :: s).length
    · by_cases h2 : tt t r + k = r.length
      · rw [if_pos (by omega), if_pos h1, if_pos h2]; rfl
      · rw [if_neg (by omega), if_pos h1, if_neg h2]; rfl
    · rw [if_neg (by omega), if_neg h1]; rfl]
  rw [mx_prod]
  congr 1
  rw [mx_perm (famk_perm (fun s r e => ?_) (partL_perm ht hbc)), famk_cons, mx_app]
  · congr 1
    · unfold L1
      by_cases q : c ∈ b
      · rw [if_pos q, if_pos q]; rfl
      · rw [if_neg q, if_neg q]
        refine congrArg mxI (famk_congr fun s _ => ?_)
        unfold Fcon
        rw [if_pos List.mem_cons_self]
    · have e2 : famk h b (fun r => if tt t r + (if c ∈ r then 1 else 0) = r.length then some (Wo t r) else none) (flatP t c (subs t p c)) = if ((flatP t c (subs t p c)).any fun x => decide (x ∈ h)) = true then [] else [0] := by
        obtain ⟨n1, _⟩ := flat_parts_nd ht (subs_nd ht p c) (subs_near ht p c)
        exact famk_nil_only fun s hs => by
          rw [if_neg (not_own ht (b := p) (subs_near ht p c) (sbk_sbl hs))]
          by_cases z : s = []
          · subst z
            rw [if_pos rfl, if_pos (show tt t [] + 0 = ([] : List Int).length from tt_nil t), Wo_nil]
          · have := tt_lt ht ((sbl_sub (sbk_sbl hs)).nodup n1) z
            rw [if_neg z, if_neg (by omega)]
      show mxI (if c ∈ h then [] else famk h b _ (flatP t c (subs t p c))) = _
      rw [e2, any_flat ht, hin_split ht hbc]
      by_cases q : c ∈ h
      · rw [if_pos q, decide_eq_true q]; rfl
      · rw [if_neg q, decide_eq_false q, Bool.false_or]
        by_cases w : (subs t p c).any (hin h t c) = true
        · rw [if_pos w, if_pos w]; rfl
        · rw [if_neg w, if_neg w]; rfl
  · show (if tt t s + (if c ∈ s then 1 else 0) = s.length then some (Wo t s) else none) = if tt t r + (if c ∈ r then 1 else 0) = r.length then some (Wo t r) else none
    rw [tt_perm e, Wo_perm e, e.length_eq]
    by_cases z : c ∈ s
    · rw [if_pos z, if_pos (e.mem_iff.mp z)]
    · rw [if_neg z, if_neg (fun q => z (e.mem_iff.mpr q))]
theorem Wp_perm {p : Int} {cs ds : List Int} (e : cs.Perm ds) : Wp h b t p cs = Wp h b t p ds := mx_perm (famk_perm (fun s r q => Fcon_perm (q.cons p)) (flatP_perm ht e))
theorem Wp_all {p : Int} (p0 : 0 ≤ p) (p1 : p < (t.1.length : Int)) : L1 b p (Wp h b t p (nearOf t.2 p)) = mxI (famk h b (Fse t p) (rangeL 0 (t.1.length : Int))) := by
  rw [mx_perm (famk_perm (fun s r q => Fse_perm q) (all_perm ht p0 p1)), famk_cons]
  have e : (if p ∈ h then [] else famk h b (Fse t p) ((nearOf t.2 p).flatMap (partL t p))) = [] := by
    by_cases q : p ∈ h
    · rw [if_pos q]
    · rw [if_neg q]
      refine famk_none fun s hs => ?_
      unfold Fse
      rw [if_neg fun w => ?_]
      obtain ⟨d, h1, h2⟩ := flat_in ht (fun x hx => hx) ((sbl_sub (sbk_sbl hs)).subset w)
      obtain ⟨m, h3⟩ := (near_step ht).mp h1
      exact h2.ne (step_rg ht h3).2.2.symm rfl
  rw [e, List.append_nil]
  unfold L1 Wp flatP
  by_cases q : p ∈ b
  · rw [if_pos q, if_pos q]; rfl
  · rw [if_neg q, if_neg q]
    refine congrArg mxI (famk_congr fun s _ => ?_)
    unfold Fse
    rw [if_pos List.mem_cons_self]
/-- a kid without which there is none -/
theorem Wp_dead {p c : Int} {cs : List Int} (nd : cs.Nodup) (hc : ∀ x ∈ cs, x ∈ nearOf t.2 p) (hm : c ∈ cs) (h1 : L1 b c (Wp h b t c (subs t p c)) = none) (h2 : hin h t p c = true) : Wp h b t p cs = none := by
  have pm : cs.Perm (cs.erase c ++ [c]) := (List.perm_cons_erase hm).trans (List.perm_append_comm (l₁ := [c]))
  rw [Wp_perm ht pm, Wp_step ht (pm.nodup_iff.mp nd) fun x hx => hc x (pm.mem_iff.mpr hx), h1, if_pos h2]
  show oadd _ none = none
  unfold oadd
  cases Wp h b t p (cs.erase c) <;> rfl
theorem hin_up {a p c : Int} {l : Int} (hs : Step t a p l) (hc : c ∈ subs t a p) (h2 : hin h t p c = true) : hin h t a p = true := by
  rw [hin_split ht hs, Bool.or_eq_true]
  exact .inr (List.any_eq_true.mpr ⟨c, hc, h2⟩)
end
section
variable {h b : List Int} {t : Tr} (ht : TreeOk t) {s : Int} {fs : List (Int × Option Int)} (hg : HungOk t s fs)
include ht hg
theorem gp_dead : ∀ (i : Nat) (p a : Int), fs[i]? = some (p, some a) → L1 b p (Wp h b t p (subs t a p)) = none → hin h t a p = true → mxI (famk h b (Fse t s) (rangeL 0 (t.1.length : Int))) = none := by
  intro i
  induction i using Nat.strongRecOn with
  | _ i ih =>
    intro p a hi h1 h2
    have hz := List.mem_of_getElem? hi
    have hn := kid_near ht hg hz
    obtain ⟨j, ab, hj, ej⟩ := hg.up i p a hi
    have hz2 := List.mem_of_getElem? ej
    cases ab with
    | none =>
      have es : a = s := by
        rcases hg.pa _ hz2 with ⟨e, _⟩ | ⟨x, l, ps, d, e, _⟩
        · exact e
        · exact nomatch e
      subst es
      have rs := (hg.all a).mp (List.mem_map.mpr ⟨_, hz2, rfl⟩)
      rw [← Wp_all ht rs.1 rs.2, Wp_dead ht (nr_nd ht a) (fun x hx => hx) hn h1 h2]
      unfold L1
      rw [ite_self]
    | some a2 =>
      have hps : p ∈ subs t a2 a := List.mem_filter.mpr ⟨hn, decide_eq_true (kid_not_up ht hg hz hz2)⟩
      obtain ⟨l, hst⟩ := (near_step ht).mp (kid_near ht hg hz2)
      refine ih j hj a a2 ej ?_ (hin_up ht hst hps h2)
      rw [Wp_dead ht (subs_nd ht a2 a) (subs_near ht a2 a) hps h1 h2]
      unfold L1
      rw [ite_self]
end

/-! ### greatest_piece tells it -/
theorem loopM_last2 {i s r : Type} {f : i → s → M (Fl s r)} {y : i} {Q : r → Prop} (P : List i → s → Prop) : ∀ (post pre : List i) (x : s), P pre x → (∀ p z q x, pre ++ post = p ++ z :: q → P p x → (∃ x', f z x = .ok (.nx x') ∧ P (p ++ [z]) x') ∨ ∃ v, f z x = .ok (.rt v) ∧ Q v) → (∀ x, P (pre ++ post) x → ∃ v, f y x = .ok (.rt v) ∧ Q v) → ∃ v, loopM f (post ++ [y]) x = .ok (.rt v) ∧ Q v
  | [], pre, x, h, _, hl => by
    rw [List.append_nil] at hl
    obtain ⟨v, e, q⟩ := hl x h
    exact ⟨v, loopM_rt e, q⟩
  | z :: post, pre, x, h, hs, hl => by
    rcases hs pre z post x rfl h with ⟨x', e, h'⟩ | ⟨v, e, q⟩
    · obtain ⟨v, e2, q⟩ := loopM_last2 P post (pre ++ [z]) x' h' (fun p w q2 x ew => hs p w q2 x (by rw [← ew, List.append_assoc]; rfl)) (fun x => by rw [List.append_assoc]; exact hl x)
      refine ⟨v, ?_, q⟩
      rw [List.cons_append, loopM_nx e]
      exact e2
    · exact ⟨v, loopM_rt e, q⟩
theorem loopM_fin {i s r : Type} {f : i → s → M (Fl s r)} {L : List i} {x : s} {k : Fl s r → M r} {w : r} (hk : ∀ v, k (.rt v) = .ok v) (h : ∃ v, loopM f L x = .ok (.rt v) ∧ v = w) : (loopM f L x >>= k) = .ok w := by
  obtain ⟨v, e, q⟩ := h
  rw [bind_ok e, hk, q]
abbrev DB := List (Int × Bool)
abbrev DI := List (Int × Int)
section
variable {t : Tr} (ht : TreeOk t) (hn : t.1.length ≤ 100000) {s : Int} {fs : List (Int × Option Int)} (hg : HungOk t s fs)
include ht hn hg
theorem gp_ok (h b : List Int) : m_greatest_piece t fs h b = .ok (mxI (famk h b (Fse t s) (rangeL 0 (t.1.length : Int)))) := by
  have hf0 := hg.hd
  obtain ⟨rest, er⟩ : ∃ rest, fs = (s, none) :: rest := by
    cases fs with
    | nil => exact nomatch hf0
    | cons z rest => exact ⟨rest, by rw [show z = (s, none) from Option.some.inj hf0]⟩
  have hlen := hg.len
  have rg : ∀ z ∈ fs, 0 ≤ z.1 ∧ z.1 < (t.1.length : Int) := fun z hz => (hg.all z.1).mp (List.mem_map.mpr ⟨z, hz, rfl⟩)
  have hs0 := rg (s, none) (by rw [er]; simp)
  unfold m_greatest_piece
  rw [er, List.reverse_cons]
  refine loopM_fin (fun _ => rfl) ?_
  refine loopM_last2 (fun (pre : List (Int × Option Int)) (st : DB × DI) => (∀ q, 0 ≤ q → q < (t.1.length : Int) → q ∉ pre.map (·.1) → Wp h b t q (kids pre q) = some ((dGet st.2 q).getD 0 + wt t q) ∧ (dGet st.1 q).getD false = (kids pre q).any (hin h t q)) ∧ st.1.length ≤ 3 * pre.length ∧ st.2.length ≤ 3 * pre.length) rest.reverse [] ([], []) ?_ ?_ ?_
  · refine ⟨fun q q0 q1 _ => ?_, Nat.le_refl _, Nat.le_refl _⟩
    refine ⟨?_, rfl⟩
    show Wp h b t q [] = some (0 + wt t q)
    rw [Wp_nil ht, Int.zero_add]
  · intro pre z post st ea ⟨hv, l1, l2⟩
    rw [List.nil_append] at ea
    obtain ⟨p, ab⟩ := z
    have efs : fs = ((s, none) :: post.reverse) ++ (p, ab) :: pre.reverse := by
      rw [er]
      have := congrArg List.reverse ea
      rw [List.reverse_reverse, List.reverse_append, List.reverse_cons] at this
      rw [this]
      simp
    have hz : (p, ab) ∈ fs := by rw [efs]; simp
    have rp := rg _ hz
    have hpl : pre.length ≤ t.1.length := by
      rw [← hlen, efs]
      simp
      omega
    have ndf := hg.nd
    rw [efs, List.map_append, List.map_cons] at ndf
    have ndA := List.nodup_append.mp ndf
    have ndB := List.nodup_cons.mp ndA.2.1
    have hpn : p ∉ pre.map (·.1) := fun w => ndB.1 (by rw [List.map_reverse]; exact List.mem_reverse.mpr w)
    have hps : p ≠ s := fun w => ndA.2.2 s (by simp) p (by simp) w.symm
    obtain ⟨a, rfl⟩ : ∃ a, ab = some a := by
      cases ab with
      | none =>
        rcases hg.pa _ hz with ⟨e1, _⟩ | ⟨x, l, ps, d, e1, _⟩
        · exact (hps e1).elim
        · exact nomatch e1
      | some a => exact ⟨a, rfl⟩
    have hk := kids_sub ht hg (fs1 := (s, none) :: post.reverse) (fs2 := pre.reverse) efs
    rw [List.reverse_reverse] at hk
    obtain ⟨own, o1, _⟩ := atI_some (xs := t.1) rp.1 rp.2
    have ow : wt t p = own := by unfold wt; rw [o1]; rfl
    obtain ⟨v1, v0⟩ := hv p rp.1 rp.2 hpn
    rw [Wp_perm ht hk, ow] at v1
    have any_perm : (kids pre p).any (hin h t p) = (subs t a p).any (hin h t p) := by
      rw [Bool.eq_iff_iff, List.any_eq_true, List.any_eq_true]
      exact ⟨fun ⟨x, hx, e⟩ => ⟨x, hk.mem_iff.mp hx, e⟩, fun ⟨x, hx, e⟩ => ⟨x, hk.mem_iff.mpr hx, e⟩⟩
    rw [any_perm] at v0
    have hap := kid_near ht hg hz
    obtain ⟨l, hst⟩ := (near_step ht).mp hap
    have ra := (step_rg ht hst).1
    have hh := hin_split (h := h) ht hst
    rw [← v0] at hh
    have hapn : a ∉ pre.map (·.1) := fun w => by
      obtain ⟨i, hi⟩ := List.mem_iff_getElem?.mp hz
      obtain ⟨j, bb, hj, ej⟩ := hg.up i p a hi
      have hi2 : fs[((s, none) :: post.reverse).length]? = some (p, some a) := by rw [efs, List.getElem?_append_right (Nat.le_refl _), Nat.sub_self]; rfl
      have hil := nd_key hg.nd hi hi2
      obtain ⟨z, hz3, ez⟩ := List.mem_map.mp w
      obtain ⟨k, hk3⟩ := List.mem_iff_getElem?.mp (List.mem_reverse.mpr hz3)
      have hk4 : fs[((s, none) :: post.reverse).length + (k + 1)]? = some (a, z.2) := by
        rw [efs, List.getElem?_append_right (by omega), show ((s, none) :: post.reverse).length + (k + 1) - ((s, none) :: post.reverse).length = k + 1 by omega, List.getElem?_cons_succ, hk3, ← ez]
      have := nd_key hg.nd ej hk4
      omega
    have kn : (kids pre a ++ [p]).Nodup := by
      have h1 : ((pre ++ [(p, some a)]).map (·.1)).Nodup := by
        rw [List.map_append]
        refine List.nodup_append.mpr ⟨?_, by simp, fun x hx y hy w => ?_⟩
        · have := ndB.2
          rw [List.map_reverse] at this
          exact (List.reverse_perm _).nodup_iff.mp this
        · have hy : y = p := by simpa using hy
          rw [w, hy] at hx
          exact hpn hx
      have := kids_nd h1 a
      rw [kids_snoc, if_pos rfl] at this
      exact this
    have kc : ∀ x ∈ kids pre a ++ [p], x ∈ nearOf t.2 a := fun x hx => by
      rcases List.mem_append.mp hx with w | w
      · exact kid_near ht hg (by rw [efs]; exact List.mem_append_right _ (List.mem_cons_of_mem _ (List.mem_reverse.mpr (kids_mem.mp w))))
      · rw [List.mem_singleton.mp w]; exact hap
    have ws := Wp_step (h := h) (b := b) ht kn kc
    obtain ⟨u1, u0⟩ := hv a ra.1 ra.2 hapn
    rw [u1] at ws
    -- what is laid behind it
    have nxt : ∀ (D1 : DB) (D2 : DI) (up : Int) (wn : Bool), (∀ j, (dGet D1 j).getD false = if j = a then wn else (dGet st.1 j).getD false) → (∀ j, (dGet D2 j).getD 0 = if j = a then (dGet st.2 a).getD 0 + up else (dGet st.2 j).getD 0) → D1.length ≤ st.1.length + 1 → D2.length ≤ st.2.length + 1 →
        omx (L1 b p (Wp h b t p (subs t a p))) (if hin h t a p = true then none else some 0) = some up → wn = ((dGet st.1 a).getD false || hin h t a p) →
        (∀ q, 0 ≤ q → q < (t.1.length : Int) → q ∉ (pre ++ [(p, some a)]).map (·.1) → Wp h b t q (kids (pre ++ [(p, some a)]) q) = some ((dGet D2 q).getD 0 + wt t q) ∧ (dGet D1 q).getD false = (kids (pre ++ [(p, some a)]) q).any (hin h t q)) ∧ D1.length ≤ 3 * (pre ++ [(p, some a)]).length ∧ D2.length ≤ 3 * (pre ++ [(p, some a)]).length := by
      intro D1 D2 up wn g1 g2 m1 m2 e1 e2
      refine ⟨fun q q0 q1 hq => ?_, by rw [List.length_append, List.length_singleton]; omega, by rw [List.length_append, List.length_singleton]; omega⟩
      have hq2 : q ∉ pre.map (·.1) := fun w => hq (by rw [List.map_append]; exact List.mem_append_left _ w)
      obtain ⟨w1, w0⟩ := hv q q0 q1 hq2
      rw [kids_snoc, g1, g2]
      by_cases ca : q = a
      · rw [ca, if_pos rfl, if_pos rfl, if_pos rfl, ws, e1]
        refine ⟨?_, ?_⟩
        · show some ((dGet st.2 a).getD 0 + wt t a + up) = _
          refine congrArg some ?_
          omega
        · rw [List.any_append, ← u0, e2]
          simp
      · rw [if_neg ca, if_neg ca, if_neg (fun w => ca (Option.some.inj w).symm)]
        exact ⟨w1, w0⟩
    have g1t : ∀ j, (dGet (dPut st.1 a true) j).getD false = if j = a then true else (dGet st.1 j).getD false := fun j => by
      rw [dGetI_put]
      by_cases c : j = a
      · rw [if_pos c, if_pos c]; rfl
      · rw [if_neg c, if_neg c]
    have g2p : ∀ (v : Int) j, (dGet (dPut st.2 a ((dGet st.2 a).getD 0 + v)) j).getD 0 = if j = a then (dGet st.2 a).getD 0 + v else (dGet st.2 j).getD 0 := fun v j => by
      rw [dGetI_put]
      by_cases c : j = a
      · rw [if_pos c, if_pos c]; rfl
      · rw [if_neg c, if_neg c]
    have p1 := dPut_len st.1 a true
    have p2 := fun v => dPut_len st.2 a ((dGet st.2 a).getD 0 + v)
    obtain ⟨ix, hix⟩ := List.mem_iff_getElem?.mp hz
    dsimp only
    by_cases cw : (dGet st.1 p).getD false = true
    · rw [if_pos cw]
      have hh : hin h t a p = true := by rw [hh, cw, Bool.or_true]
      by_cases cb : p ∈ b
      · right
        refine ⟨none, by rw [if_pos cb, if_neg (show ¬ Option.isNone (some a) = true from fun z => nomatch z), opt_b rfl], ?_⟩
        exact (gp_dead ht hg ix p a hix (if_pos cb) hh).symm
      · left
        refine ⟨(dPut st.1 a true, dPut st.2 a ((dGet st.2 a).getD 0 + ((dGet st.2 p).getD 0 + own))), ?_, ?_⟩
        · rw [if_neg cb, opt_b o1, if_neg (show ¬ Option.isNone (some a) = true from fun z => nomatch z), opt_b rfl, bind_ok (putI_ok a true (by omega)), bind_ok (putI_ok a _ (by omega))]
        · refine nxt _ _ _ true g1t (g2p _) p1 (p2 _) ?_ (by rw [hh, Bool.or_true])
          unfold L1
          rw [if_neg cb, v1, if_pos hh]
          rfl
    · rw [if_neg cw]
      have cw := Bool.not_eq_true _ |>.mp cw
      rw [cw, Bool.or_false] at hh
      by_cases cb : p ∈ b
      · rw [if_pos cb, if_neg (show ¬ Option.isNone (some a) = true from fun z => nomatch z), opt_b rfl]
        by_cases ch : p ∈ h
        · right
          refine ⟨none, by rw [if_pos ch], ?_⟩
          exact (gp_dead ht hg ix p a hix (if_pos cb) (by rw [hh, decide_eq_true ch])).symm
        · left
          rw [decide_eq_false ch] at hh
          refine ⟨(st.1, st.2), by rw [if_neg ch, if_neg ch], ?_⟩
          refine nxt st.1 st.2 0 ((dGet st.1 a).getD false) (fun j => ?_) (fun j => ?_) (by omega) (by omega) ?_ (by rw [hh, Bool.or_false])
          · by_cases c : j = a
            · rw [if_pos c, c]
            · rw [if_neg c]
          · by_cases c : j = a
            · rw [if_pos c, c, Int.add_zero]
            · rw [if_neg c]
          · unfold L1
            rw [if_pos cb, hh]
            rfl
      · rw [if_neg cb, opt_b o1, if_neg (show ¬ Option.isNone (some a) = true from fun z => nomatch z), opt_b rfl]
        by_cases ch : p ∈ h
        · left
          rw [decide_eq_true ch] at hh
          refine ⟨(dPut st.1 a true, dPut st.2 a ((dGet st.2 a).getD 0 + ((dGet st.2 p).getD 0 + own))), ?_, ?_⟩
          · rw [if_pos ch, bind_ok (putI_ok a true (by omega)), bind_ok (putI_ok a _ (by omega))]
          · refine nxt _ _ _ true g1t (g2p _) p1 (p2 _) ?_ (by rw [hh, Bool.or_true])
            unfold L1
            rw [if_neg cb, v1, if_pos hh]
            rfl
        · left
          rw [decide_eq_false ch] at hh
          refine ⟨(st.1, dPut st.2 a ((dGet st.2 a).getD 0 + (if ((dGet st.2 p).getD 0 + own) > 0 then ((dGet st.2 p).getD 0 + own) else 0))), ?_, ?_⟩
          · rw [if_neg ch, bind_ok (putI_ok a _ (by omega))]
          · refine nxt st.1 _ _ ((dGet st.1 a).getD false) (fun j => ?_) (g2p _) (Nat.le_succ _) (p2 _) ?_ (by rw [hh, Bool.or_false])
            · by_cases c : j = a
              · rw [if_pos c, c]
              · rw [if_neg c]
            · unfold L1
              rw [if_neg cb, v1, hh, if_neg Bool.false_ne_true]
              show some _ = some _
              refine congrArg some ?_
              by_cases c : (0 : Int) > (dGet st.2 p).getD 0 + own
              · rw [if_pos c, if_neg (by omega)]
              · rw [if_neg c]
                by_cases d : (dGet st.2 p).getD 0 + own > 0
                · rw [if_pos d]
                · rw [if_neg d]; omega
  · intro st ⟨hv, l1, l2⟩
    rw [List.nil_append] at hv l1 l2
    have hnot : s ∉ rest.reverse.map (·.1) := fun w => by
      have := hg.nd
      rw [er, List.map_cons] at this
      exact (List.nodup_cons.mp this).1 (by rw [List.map_reverse] at w; exact List.mem_reverse.mp w)
    have hk := kids_root ht hg er
    obtain ⟨own, o1, _⟩ := atI_some (xs := t.1) hs0.1 hs0.2
    have ow : wt t s = own := by unfold wt; rw [o1]; rfl
    obtain ⟨v1, v0⟩ := hv s hs0.1 hs0.2 hnot
    rw [Wp_perm ht hk, ow] at v1
    refine ⟨_, ?_, Wp_all ht hs0.1 hs0.2⟩
    unfold L1
    rw [v1]
    dsimp only
    by_cases cw : (dGet st.1 s).getD false = true
    · rw [if_pos cw]
      by_cases cb : s ∈ b
      · rw [if_pos cb, if_pos cb, if_pos (show Option.isNone (none : Option Int) = true from rfl)]
      · rw [if_neg cb, if_neg cb, opt_b o1, if_pos (show Option.isNone (none : Option Int) = true from rfl)]
    · rw [if_neg cw]
      by_cases cb : s ∈ b
      · rw [if_pos cb, if_pos cb, if_pos (show Option.isNone (none : Option Int) = true from rfl)]
      · rw [if_neg cb, if_neg cb, opt_b o1, if_pos (show Option.isNone (none : Option Int) = true from rfl)]
end

/-! ### hangs: whether places hang together with the seat -/
theorem perm_of_sub' {a : Type} [DecidableEq a] : ∀ {l m : List a}, l.Nodup → (∀ x ∈ l, x ∈ m) → m.length = l.length → l.Perm m
  | [], m, _, _, e => by rw [List.length_eq_zero_iff.mp e]
  | x :: l, m, nd, h, e => by
    have hm := h x List.mem_cons_self
    have nd := List.nodup_cons.mp nd
    have e2 := List.length_erase_of_mem hm
    rw [List.length_cons] at e
    have := perm_of_sub' (l := l) (m := m.erase x) nd.2 (fun y hy => (List.mem_erase_of_ne (fun z : y = x => nd.1 (by rw [← z]; exact hy))).mpr (h y (List.mem_cons_of_mem _ hy))) (by omega)
    exact (this.cons x).trans (List.perm_cons_erase hm).symm
theorem countP_all {a : Type} {p q : a → Bool} : ∀ {l : List a}, (∀ z ∈ l, p z = true → q z = true) → (l.countP p = l.countP q ↔ ∀ z ∈ l, q z = true → p z = true)
  | [], _ => ⟨(fun _ z hz => nomatch hz), fun _ => rfl⟩
  | x :: l, h => by
    have ih := countP_all (p := p) (q := q) (l := l) fun z hz => h z (List.mem_cons_of_mem _ hz)
    have le := List.countP_mono_left (p := p) (q := q) (l := l) fun z hz => h z (List.mem_cons_of_mem _ hz)
    have hx := h x List.mem_cons_self
    rw [List.countP_cons, List.countP_cons]
    constructor
    · intro e z hz hq
      rcases List.mem_cons.mp hz with w | w
      · subst w
        by_cases c : p z = true
        · exact c
        · rw [if_neg c, if_pos hq] at e; omega
      · refine ih.mp ?_ z w hq
        by_cases c : p x = true
        · rw [if_pos c, if_pos (hx c)] at e; omega
        · rw [if_neg c] at e
          by_cases d : q x = true
          · rw [if_pos d] at e; omega
          · rw [if_neg d] at e; omega
    · intro e
      have e1 := ih.mpr fun z hz => e z (List.mem_cons_of_mem _ hz)
      have e2 := e x List.mem_cons_self
      by_cases c : q x = true
      · rw [if_pos c, if_pos (e2 c), e1]
      · rw [if_neg c, if_neg (fun d => c (hx d)), e1]
def upIn (held : List Int) (z : Int × Option Int) : Bool := match z.2 with
  | none => true
  | some a => decide (a ∈ held)
def pairT (z : Tie) : Int × Int := (z.a, z.b)
def pairH (z : Int × Option Int) : Int × Int := (min z.1 (z.2.getD 0), max z.1 (z.2.getD 0))
section
variable {t : Tr} (ht : TreeOk t) (hn : t.1.length ≤ 100000) {s : Int} {fs : List (Int × Option Int)} (hg : HungOk t s fs)
omit ht in
theorem hangs_val (hl : fs.length < 16777216) (held : List Int) : m_hangs fs held = .ok (fs.all fun z => !decide (z.1 ∈ held) || upIn held z) := by
  unfold m_hangs
  refine compS_mapB (fun z => !decide (z.1 ∈ held) || upIn held z) hl (fun z _ => ?_) ?_
  · obtain ⟨c, ab⟩ := z
    dsimp only
    by_cases h : c ∈ held
    · rw [if_neg (fun w => w h)]
      cases ab with
      | none =>
        rw [if_pos (show Option.isNone (none : Option Int) = true from rfl)]
        simp [upIn]
      | some a =>
        rw [if_neg (show ¬ Option.isNone (some a) = true from fun z => nomatch z), opt_b rfl]
        simp [upIn, h]
    · rw [if_pos h]
      simp [h]
  · dsimp only
    rw [List.all_map]
    rfl
include ht hg
theorem pairs_perm {rest : List (Int × Option Int)} (er : fs = (s, none) :: rest) : (rest.map pairH).Perm (t.2.map pairT) := by
  have up : ∀ z ∈ rest, ∃ a, z.2 = some a := fun z hz => by
    rcases hg.pa z (by rw [er]; exact List.mem_cons_of_mem _ hz) with ⟨e, _⟩ | ⟨x, l, ps, d, e, _⟩
    · have := hg.nd
      rw [er, List.map_cons] at this
      exact ((List.nodup_cons.mp this).1 (by rw [← e]; exact List.mem_map.mpr ⟨z, hz, rfl⟩)).elim
    · exact ⟨x, e⟩
  have hrn : (rest.map (·.1)).Nodup := by
    have := hg.nd
    rw [er, List.map_cons] at this
    exact (List.nodup_cons.mp this).2
  refine perm_of_sub' ?_ (fun x hx => ?_) ?_
  · show List.Pairwise (· ≠ ·) (rest.map pairH)
    refine List.pairwise_map.mpr (List.Pairwise.imp_of_mem ?_ (List.pairwise_map.mp (show List.Pairwise (· ≠ ·) (rest.map (·.1)) from hrn)))
    intro z z' hz hz' hne e
    obtain ⟨a, ea⟩ := up z hz
    obtain ⟨a', ea'⟩ := up z' hz'
    unfold pairH at e
    rw [ea, ea'] at e
    have e1 : min z.1 a = min z'.1 a' := congrArg Prod.fst e
    have e2 : max z.1 a = max z'.1 a' := congrArg Prod.snd e
    have hx : z.1 = a' ∧ a = z'.1 := by omega
    have hzf : (z.1, some a) ∈ fs := by rw [er, ← ea]; exact List.mem_cons_of_mem _ hz
    have hzf' : (z'.1, some a') ∈ fs := by rw [er, ← ea']; exact List.mem_cons_of_mem _ hz'
    obtain ⟨i, hi⟩ := List.mem_iff_getElem?.mp hzf
    obtain ⟨j, hj⟩ := List.mem_iff_getElem?.mp hzf'
    obtain ⟨k, b, hk, ek⟩ := hg.up i z.1 a hi
    obtain ⟨k', b', hk', ek'⟩ := hg.up j z'.1 a' hj
    rw [hx.2] at ek
    rw [← hx.1] at ek'
    have h1 := nd_key hg.nd ek hj
    have h2 := nd_key hg.nd ek' hi
    omega
  · obtain ⟨z, hz, rfl⟩ := List.mem_map.mp hx
    obtain ⟨a, ea⟩ := up z hz
    obtain ⟨l, w, hw, hab, _⟩ := (near_step ht).mp (kid_near ht hg (show (z.1, some a) ∈ fs by rw [er, ← ea]; exact List.mem_cons_of_mem _ hz))
    have := ht.tie w hw
    refine List.mem_map.mpr ⟨w, hw, ?_⟩
    unfold pairT pairH
    rw [ea]
    show (w.a, w.b) = (min z.1 a, max z.1 a)
    rcases hab with ⟨e1, e2⟩ | ⟨e1, e2⟩
    · rw [e1, e2] at this ⊢
      rw [Int.min_eq_right (by omega), Int.max_eq_left (by omega)]
    · rw [e1, e2] at this ⊢
      rw [Int.min_eq_left (by omega), Int.max_eq_right (by omega)]
  · have h1 := hg.len
    have h2 := ht.len
    rw [er, List.length_cons] at h1
    rw [List.length_map, List.length_map]
    omega
theorem hang_iff {held : List Int} (nd : held.Nodup) (hr : ∀ x ∈ held, 0 ≤ x ∧ x < (t.1.length : Int)) (hs : s ∈ held) : (tt t held + 1 = held.length ↔ (fs.all fun z => !decide (z.1 ∈ held) || upIn held z) = true) := by
  have hf0 := hg.hd
  obtain ⟨rest, er⟩ : ∃ rest, fs = (s, none) :: rest := by
    cases fs with
    | nil => exact nomatch hf0
    | cons z rest => exact ⟨rest, by rw [show z = (s, none) from Option.some.inj hf0]⟩
  have up : ∀ z ∈ rest, ∃ a, z.2 = some a := fun z hz => by
    rcases hg.pa z (by rw [er]; exact List.mem_cons_of_mem _ hz) with ⟨e, _⟩ | ⟨x, l, ps, d, e, _⟩
    · have := hg.nd
      rw [er, List.map_cons] at this
      exact ((List.nodup_cons.mp this).1 (by rw [← e]; exact List.mem_map.mpr ⟨z, hz, rfl⟩)).elim
    · exact ⟨x, e⟩
  have e1 : tt t held = rest.countP fun z => decide (z.1 ∈ held) && upIn held z := by
    have h1 : tt t held = (t.2.map pairT).countP fun p => decide (p.1 ∈ held) && decide (p.2 ∈ held) := by
      rw [List.countP_map]
      rfl
    rw [h1, ← (pairs_perm ht hg er).countP_eq, List.countP_map]
    refine List.countP_congr fun z hz => ?_
    obtain ⟨a, ea⟩ := up z hz
    show (decide (min z.1 (z.2.getD 0) ∈ held) && decide (max z.1 (z.2.getD 0) ∈ held)) = true ↔ (decide (z.1 ∈ held) && upIn held z) = true
    unfold upIn
    rw [ea]
    show (decide (min z.1 a ∈ held) && decide (max z.1 a ∈ held)) = true ↔ (decide (z.1 ∈ held) && decide (a ∈ held)) = true
    rcases Int.le_total z.1 a with c | c
    · rw [Int.min_eq_left c, Int.max_eq_right c]
    · rw [Int.min_eq_right c, Int.max_eq_left c, Bool.and_comm]
  have e2 : held.length = 1 + rest.countP fun z => decide (z.1 ∈ held) := by
    have h1 : held.Perm ((fs.map (·.1)).filter fun x => decide (x ∈ held)) := (List.perm_ext_iff_of_nodup nd (hg.nd.filter _)).mpr fun x => by
      rw [List.mem_filter, decide_eq_true_eq]
      exact ⟨fun h => ⟨(hg.all x).mpr (hr x h), h⟩, fun h => h.2⟩
    rw [h1.length_eq, ← List.countP_eq_length_filter, List.countP_map, er, List.countP_cons, if_pos (by simpa using hs), Nat.add_comm]
    rfl
  rw [e1, e2, er, List.all_cons]
  have c0 : (!decide ((s, (none : Option Int)).1 ∈ held) || upIn held (s, none)) = true := by simp [upIn]
  rw [c0, Bool.true_and, List.all_eq_true]
  have key := countP_all (p := fun z : Int × Option Int => decide (z.1 ∈ held) && upIn held z) (q := fun z => decide (z.1 ∈ held)) (l := rest) fun z _ h => (Bool.and_eq_true _ _ ▸ h).1
  constructor
  · intro e z hz
    have h := key.mp (by omega) z hz
    by_cases c : z.1 ∈ held
    · have := h (decide_eq_true c)
      rw [Bool.and_eq_true] at this
      rw [this.2, Bool.or_true]
    · rw [decide_eq_false c]; rfl
  · intro e
    have := key.mpr fun z hz hq => by
      have := e z hz
      rw [hq] at this
      have this : upIn held z = true := by simpa using this
      rw [hq, this]
      rfl
    omega
end

/-! ### best_piece -/
theorem range_up (lo hi : Int) : (rangeL lo hi).Pairwise (· < ·) := by
  unfold rangeL
  refine List.pairwise_map.mpr (List.pairwise_lt_range.imp fun h => by omega)
theorem sbk_mem {h b : List Int} : ∀ {xs r : List Int}, xs.Nodup → r ∈ sbl xs → (∀ x ∈ xs, x ∈ h → x ∈ r) → (∀ x ∈ xs, x ∈ b → x ∉ r) → r ∈ sbk h b xs
  | [], _, _, e, _, _ => e
  | x :: xs, r, nd, e, h1, h2 => by
    have nd := List.nodup_cons.mp nd
    show r ∈ (if x ∈ b then [] else (sbk h b xs).map (x :: ·)) ++ (if x ∈ h then [] else sbk h b xs)
    rcases List.mem_append.mp e with w | w
    · obtain ⟨r', hr', rfl⟩ := List.mem_map.mp w
      refine List.mem_append_left _ ?_
      rw [if_neg fun c => h2 x List.mem_cons_self c List.mem_cons_self]
      refine List.mem_map.mpr ⟨r', sbk_mem nd.2 hr' (fun y hy c => ?_) (fun y hy c d => h2 y (List.mem_cons_of_mem _ hy) c (List.mem_cons_of_mem _ d)), rfl⟩
      rcases List.mem_cons.mp (h1 y (List.mem_cons_of_mem _ hy) c) with q | q
      · exact (nd.1 (q ▸ hy)).elim
      · exact q
    · refine List.mem_append_right _ ?_
      rw [if_neg fun c => nd.1 ((sbl_sub w).subset (h1 x List.mem_cons_self c))]
      exact sbk_mem nd.2 w (fun y hy c => h1 y (List.mem_cons_of_mem _ hy) c) fun y hy c => h2 y (List.mem_cons_of_mem _ hy) c
structure DecP (s k : Int) (ch barred : List Int) : Prop where
  f : ch = (rangeL 0 k).filter fun x => decide (x ∈ ch)
  n : s ∉ ch
  d : ∀ x, 0 ≤ x → x < k → x ≠ s → x ∈ ch ∧ x ∉ barred ∨ x ∈ barred ∧ x ∉ ch
  b : ∀ x ∈ barred, x < k ∧ x ≠ s
  l : (barred.length : Int) ≤ k
def hdP (s k : Int) (ch : List Int) : List Int := (rangeL 0 k).filter fun x => decide (x ∈ s :: ch)
section
variable {s k : Int} {ch barred : List Int} (D : DecP s k ch barred) (k0 : 0 ≤ k)
include D
theorem DecP.h : ∀ x ∈ ch, 0 ≤ x ∧ x < k := fun x hx => by
  rw [D.f] at hx
  exact rangeL_mem.mp (List.mem_filter.mp hx).1
omit D in
theorem hdP_mem {x : Int} : x ∈ hdP s k ch ↔ (0 ≤ x ∧ x < k) ∧ (x = s ∨ x ∈ ch) := by
  unfold hdP
  rw [List.mem_filter, rangeL_mem, decide_eq_true_eq, List.mem_cons]
include k0
theorem DecP.take (hk : k ≠ s) : DecP s (k + 1) (ch ++ [k]) barred where
  f := by
    rw [rangeL_app k0 (show k ≤ k + 1 by omega), rangeL_cons (show k < k + 1 by omega), rangeL_nil, List.filter_append]
    congr 1
    · refine D.f.trans (List.filter_congr fun x hx => ?_)
      have := rangeL_mem.mp hx
      refine decide_eq_decide.mpr ?_
      rw [List.mem_append, List.mem_singleton]
      exact ⟨.inl, fun w => w.elim id fun e => by omega⟩
    · rw [List.filter_cons, if_pos (by simp)]; rfl
  n := fun w => by
    rcases List.mem_append.mp w with w | w
    · exact D.n w
    · exact hk (List.mem_singleton.mp w).symm
  d := fun x x0 x1 xs => by
    by_cases c : x = k
    · exact .inl ⟨by rw [c]; simp, fun w => by have := (D.b x w).1; omega⟩
    · rcases D.d x x0 (by omega) xs with ⟨a, b⟩ | ⟨a, b⟩
      · exact .inl ⟨List.mem_append_left _ a, b⟩
      · refine .inr ⟨a, fun w => ?_⟩
        rcases List.mem_append.mp w with w | w
        · exact b w
        · exact c (List.mem_singleton.mp w)
  b := fun x hx => ⟨by have := (D.b x hx).1; omega, (D.b x hx).2⟩
  l := by have := D.l; omega
theorem DecP.f_stay : ch = (rangeL 0 (k + 1)).filter fun x => decide (x ∈ ch) := by
  rw [rangeL_app k0 (show k ≤ k + 1 by omega), rangeL_cons (show k < k + 1 by omega), rangeL_nil, List.filter_append]
  rw [List.filter_cons, if_neg (by
    rw [decide_eq_true_eq]
    exact fun w => by have := D.h k w; omega), List.filter_nil, List.append_nil]
  exact D.f
theorem DecP.leave (hk : k ≠ s) : DecP s (k + 1) ch (barred ++ [k]) where
  f := D.f_stay k0
  n := D.n
  d := fun x x0 x1 xs => by
    by_cases c : x = k
    · exact .inr ⟨by rw [c]; simp, fun w => by have := D.h x w; omega⟩
    · rcases D.d x x0 (by omega) xs with ⟨a, b⟩ | ⟨a, b⟩
      · refine .inl ⟨a, fun w => ?_⟩
        rcases List.mem_append.mp w with w | w
        · exact b w
        · exact c (List.mem_singleton.mp w)
      · exact .inr ⟨List.mem_append_left _ a, b⟩
  b := fun x hx => by
    rcases List.mem_append.mp hx with w | w
    · have := D.b x w; exact ⟨by omega, this.2⟩
    · rw [List.mem_singleton.mp w]; exact ⟨by omega, hk⟩
  l := by rw [List.length_append, List.length_singleton]; have := D.l; omega
theorem DecP.own (hk : k = s) : DecP s (k + 1) ch barred where
  f := D.f_stay k0
  n := D.n
  d := fun x x0 x1 xs => D.d x x0 (by omega) xs
  b := fun x hx => ⟨by have := (D.b x hx).1; omega, (D.b x hx).2⟩
  l := by have := D.l; omega
omit D in
theorem hdP_next : hdP s (k + 1) ch = hdP s k ch ++ if k ∈ s :: ch then [k] else [] := by
  unfold hdP
  rw [rangeL_app k0 (show k ≤ k + 1 by omega), rangeL_cons (show k < k + 1 by omega), rangeL_nil, List.filter_append, List.filter_cons, List.filter_nil]
  by_cases c : k ∈ s :: ch
  · rw [if_pos (decide_eq_true c), if_pos c]
  · rw [if_neg (by simpa using c), if_neg c]
omit D in
theorem hdP_take : hdP s (k + 1) (ch ++ [k]) = hdP s k ch ++ [k] := by
  rw [hdP_next k0, if_pos (by simp)]
  congr 1
  unfold hdP
  refine List.filter_congr fun x hx => decide_eq_decide.mpr ?_
  have := rangeL_mem.mp hx
  rw [List.mem_cons, List.mem_cons, List.mem_append, List.mem_singleton]
  constructor
  · rintro (a | a | a)
    · exact .inl a
    · exact .inr a
    · omega
  · rintro (a | a)
    · exact .inl a
    · exact .inr (.inl a)
theorem DecP.ex {t : Tr} {n : Int} (kn : k ≤ n) {M : Int} : (∃ r ∈ sbk (s :: ch) barred (rangeL 0 n), Fse t s r = some M) ↔ ∃ r ∈ sbl (rangeL k n), Fse t s (hdP s k ch ++ r) = some M := by
  have e : sbk (s :: ch) barred (rangeL 0 n) = (sbk (s :: ch) barred (rangeL k n)).map (hdP s k ch ++ ·) := by
    rw [rangeL_app k0 kn, sbk_app, sbk_one (h := s :: ch) (b := barred) (xs := rangeL 0 k) fun x hx => ?_, List.flatMap_singleton]
    · rfl
    · have hx := rangeL_mem.mp hx
      by_cases c : x = s
      · exact .inl ⟨by rw [c]; simp, fun w => (D.b x w).2 c⟩
      · rcases D.d x hx.1 hx.2 c with ⟨a, b⟩ | ⟨a, b⟩
        · exact .inl ⟨List.mem_cons_of_mem _ a, b⟩
        · exact .inr ⟨a, fun w => (List.mem_cons.mp w).elim c b⟩
  rw [e]
  constructor
  · rintro ⟨r, hr, he⟩
    obtain ⟨r', hr', rfl⟩ := List.mem_map.mp hr
    exact ⟨r', sbk_sbl hr', he⟩
  · rintro ⟨r, hr, he⟩
    refine ⟨_, List.mem_map.mpr ⟨r, sbk_mem (rangeL_nodup _ _) hr (fun x hx c => ?_) (fun x hx c => ?_), rfl⟩, he⟩
    · have hx := rangeL_mem.mp hx
      rcases List.mem_cons.mp c with w | w
      · subst w
        have : x ∈ hdP x k ch ++ r := by
          unfold Fse at he
          by_cases q : x ∈ hdP x k ch ++ r
          · exact q
          · rw [if_neg q] at he; exact nomatch he
        rcases List.mem_append.mp this with w | w
        · have := (hdP_mem.mp w).1; omega
        · exact w
      · have := D.h x w; omega
    · have hx := rangeL_mem.mp hx
      have := (D.b x c).1
      omega
omit k0 in
theorem DecP.perm (hs : 0 ≤ s ∧ s < k) : (s :: ch).Perm (hdP s k ch) := by
  have ndc : ch.Nodup := by
    rw [D.f]
    exact (rangeL_nodup _ _).filter _
  refine (List.perm_ext_iff_of_nodup (List.nodup_cons.mpr ⟨D.n, ndc⟩) ((rangeL_nodup _ _).filter _)).mpr fun x => ?_
  rw [show x ∈ List.filter _ (rangeL 0 k) ↔ _ from hdP_mem (s := s) (k := k) (ch := ch), List.mem_cons]
  constructor
  · rintro (w | w)
    · exact ⟨by omega, .inl w⟩
    · exact ⟨D.h x w, .inr w⟩
  · exact fun w => w.2
omit k0 in
theorem DecP.sort (hs : 0 ≤ s ∧ s < k) : sortT (s :: ch) = hdP s k ch := by
  rw [sortT_eq (D.perm hs)]
  refine sortT_id ?_
  unfold hdP
  refine ((range_up 0 k).filter _).imp fun h => ?_
  rw [leT_int, decide_eq_true_eq]
  omega
end

/-! ### best_piece: the loop -/
def tlP (t : Tr) (fs : List (Int × Option Int)) (M : Option Int) (s y : Int) (st : (List Int) × (List Int)) : PG.M (Fl ((List Int) × (List Int)) (List Int)) :=
  if y ≠ s then (
  chk (st.1.length + ([y]).length < 16777216) >>= fun _ =>
  m_greatest_piece t fs (st.1 ++ ([y])) st.2 >>= fun r =>
  if r = M then (
  appL st.1 y >>= fun _ =>
  .ok (.nx ((st.1 ++ [y]), st.2)))
  else (
  appL st.2 y >>= fun _ =>
  .ok (.nx (st.1, (st.2 ++ [y])))))
  else (
  .ok (.nx (st.1, st.2)))
def bpF (t : Tr) (fs : List (Int × Option Int)) (M : Option Int) (s y : Int) (st : (List Int) × (List Int)) : PG.M (Fl ((List Int) × (List Int)) (List Int)) :=
  if s < y then (
  compS (fun (y95 : Int) (st112 : Unit) =>
  opt (atI t.1 y95) >>= fun y123 =>
  .ok (some y123, ())) st.1 () >>= fun q139 =>
  if (some (List.sum q139.1)) = M then (
  m_hangs fs st.1 >>= fun r154 =>
  if r154 = true then (
  .ok (.rt (sortT st.1)))
  else tlP t fs M s y st)
  else tlP t fs M s y st)
  else tlP t fs M s y st
section
variable {t : Tr} (ht : TreeOk t) (hn : t.1.length ≤ 100000) {s : Int} {fs : List (Int × Option Int)} (hg : HungOk t s fs) {M : Int}
include ht hn hg
theorem bp_loop (hs0 : 0 ≤ s) (hs1 : s < (t.1.length : Int)) (hM : ∀ r ∈ sbl (rangeL 0 (t.1.length : Int)), ∀ v, Fse t s r = some v → v ≤ M) : ∀ (m : Nat) (k : Int), 0 ≤ k → k + m = (t.1.length : Int) → ∀ (ch barred : List Int), DecP s k ch barred → (∃ r ∈ sbl (rangeL k (t.1.length : Int)), Fse t s (hdP s k ch ++ r) = some M) →
    ∃ r, (en (rangeL k (t.1.length : Int))).find? (fun r => decide (Fse t s (hdP s k ch ++ r) = some M)) = some r ∧ ∃ f, loopM (bpF t fs (some M) s) (rangeL k (t.1.length : Int)) (s :: ch, barred) = .ok f ∧ (f = .rt (hdP s k ch ++ r) ∨ ∃ ch' bb, f = .nx (s :: ch', bb) ∧ sortT (s :: ch') = hdP s k ch ++ r)
  | 0, k, k0, hk, ch, barred, D, ⟨r, hr, he⟩ => by
    have e : k = (t.1.length : Int) := by omega
    subst e
    rw [rangeL_nil] at hr ⊢
    have hr : r = [] := List.mem_singleton.mp hr
    subst hr
    refine ⟨[], ?_, _, rfl, .inr ⟨ch, barred, rfl, by rw [List.append_nil]; exact D.sort ⟨hs0, hs1⟩⟩⟩
    show ([[]] : List (List Int)).find? _ = _
    rw [List.find?_cons, decide_eq_true he]
  | m + 1, k, k0, hk, ch, barred, D, ⟨r, hr, he⟩ => by
    have kn : k < (t.1.length : Int) := by omega
    have hflen : fs.length < 16777216 := by rw [hg.len]; omega
    rw [rangeL_cons kn] at hr ⊢
    rw [en_find]
    have notin : ∀ {r : List Int}, s ∉ hdP s k ch ++ r → Fse t s (hdP s k ch ++ r) ≠ some M := fun h z => by
      unfold Fse at z
      rw [if_neg h] at z
      exact nomatch z
    by_cases ks : k = s
    · -- the seat itself
      have p0 : ¬ decide (Fse t s (hdP s k ch ++ []) = some M) = true := fun z => notin (fun w => by
        rw [List.append_nil] at w
        have := (hdP_mem.mp w).1
        omega) (of_decide_eq_true z)
      rw [if_neg p0]
      have hh : hdP s (k + 1) ch = hdP s k ch ++ [k] := by rw [hdP_next k0, if_pos (by rw [ks]; exact List.mem_cons_self)]
      obtain ⟨r', hr', rfl⟩ : ∃ r', r' ∈ sbl (rangeL (k + 1) (t.1.length : Int)) ∧ r = k :: r' := by
        rcases List.mem_append.mp hr with w | w
        · obtain ⟨r', h1, h2⟩ := List.mem_map.mp w
          exact ⟨r', h1, h2.symm⟩
        · exfalso
          refine notin (fun q => ?_) he
          rcases List.mem_append.mp q with q | q
          · have := (hdP_mem.mp q).1; omega
          · have := rangeL_mem.mp ((sbl_sub w).subset q); omega
      have cons : ∀ z : List Int, hdP s k ch ++ (k :: z) = hdP s (k + 1) ch ++ z := fun z => by rw [hh, List.append_assoc]; rfl
      obtain ⟨r0, f0, fl, g1, g2⟩ := bp_loop hs0 hs1 hM m (k + 1) (by omega) (by omega) ch barred (D.own k0 ks) ⟨r', hr', by rw [← cons]; exact he⟩
      refine ⟨k :: r0, ?_, fl, ?_, by rw [cons]; exact g2⟩
      · have : (fun z => decide (Fse t s (hdP s k ch ++ (k :: z)) = some M)) = fun z => decide (Fse t s (hdP s (k + 1) ch ++ z) = some M) := funext fun z => by rw [cons]
        rw [this, f0]
        rfl
      · rw [← g1]
        refine loopM_nx ?_
        unfold bpF tlP
        rw [if_neg (by omega), if_neg (fun z => z ks)]
    · -- another place
      have chl : ch.length ≤ t.1.length := by
        have h1 := (List.filter_sublist (l := rangeL 0 k) (p := fun x => decide (x ∈ ch))).length_le
        rw [← D.f, rangeL_length] at h1
        omega
      have hcomp : compS (fun (y95 : Int) (st112 : Unit) => opt (atI t.1 y95) >>= fun y123 => .ok (some y123, ())) (s :: ch) () = .ok ((s :: ch).map (wt t), ()) := by
        rw [compS_pure (fun y => some (wt t y)) (by rw [List.length_cons]; omega) fun x hx => by
          have : 0 ≤ x ∧ x < (t.1.length : Int) := by
            rcases List.mem_cons.mp hx with w | w
            · rw [w]; exact ⟨hs0, hs1⟩
            · have := D.h x w; omega
          obtain ⟨own, o1, _⟩ := atI_some (xs := t.1) this.1 this.2
          rw [opt_b o1]
          unfold wt
          rw [o1]
          rfl]
        rw [List.filterMap_eq_map']
      have hW : List.sum ((s :: ch).map (wt t)) = Wo t (s :: ch) := rfl
      have hang := hangs_val hflen (s :: ch)
      -- taken at once?
      by_cases early : s < k ∧ Wo t (s :: ch) = M ∧ tt t (s :: ch) + 1 = (s :: ch).length
      · obtain ⟨e1, e2, e3⟩ := early
        have pm := D.perm ⟨hs0, e1⟩
        have hF : Fse t s (hdP s k ch) = some M := by
          unfold Fse
          rw [if_pos (hdP_mem.mpr ⟨⟨hs0, e1⟩, .inl rfl⟩), ← Fcon_perm pm]
          unfold Fcon
          rw [if_pos e3, e2]
        refine ⟨[], ?_, .rt (hdP s k ch), ?_, .inl (by rw [List.append_nil])⟩
        · rw [if_pos]
          rw [List.append_nil]
          exact decide_eq_true hF
        · refine loopM_rt ?_
          have hi := (hang_iff ht hg (held := s :: ch) (pm.nodup_iff.mpr ((rangeL_nodup _ _).filter _)) (fun x hx => by
            rcases List.mem_cons.mp hx with w | w
            · rw [w]; exact ⟨hs0, hs1⟩
            · have := D.h x w; omega) List.mem_cons_self).mp e3
          unfold bpF
          rw [if_pos e1, bind_ok hcomp]
          dsimp only
          rw [hW, e2, if_pos rfl, bind_ok hang, hi, if_pos rfl, D.sort ⟨hs0, e1⟩]
      · have p0 : ¬ decide (Fse t s (hdP s k ch ++ []) = some M) = true := fun z => by
          have z := of_decide_eq_true z
          rw [List.append_nil] at z
          by_cases c : s < k
          · have pm := D.perm ⟨hs0, c⟩
            unfold Fse at z
            rw [if_pos (hdP_mem.mpr ⟨⟨hs0, c⟩, .inl rfl⟩), ← Fcon_perm pm] at z
            unfold Fcon at z
            by_cases d : tt t (s :: ch) + 1 = (s :: ch).length
            · rw [if_pos d] at z
              exact early ⟨c, Option.some.inj z, d⟩
            · rw [if_neg d] at z; exact nomatch z
          · unfold Fse at z
            rw [if_neg fun w => by have := (hdP_mem.mp w).1; omega] at z
            exact nomatch z
        rw [if_neg p0]
        -- the rest of the turn
        have turn : bpF t fs (some M) s k (s :: ch, barred) = tlP t fs (some M) s k (s :: ch, barred) := by
          unfold bpF
          by_cases c : s < k
          · rw [if_pos c, bind_ok hcomp]
            dsimp only
            rw [hW]
            by_cases d : Wo t (s :: ch) = M
            · rw [if_pos (by rw [d]), bind_ok hang, if_neg fun z => early ⟨c, d, ?_⟩]
              have pm := D.perm ⟨hs0, c⟩
              exact (hang_iff ht hg (held := s :: ch) (pm.nodup_iff.mpr ((rangeL_nodup _ _).filter _)) (fun x hx => by
                rcases List.mem_cons.mp hx with w | w
                · rw [w]; exact ⟨hs0, hs1⟩
                · have := D.h x w; omega) List.mem_cons_self).mpr z
            · rw [if_neg fun z => d (Option.some.inj z)]
          · rw [if_neg c]
        have DT := D.take k0 ks
        have ex := DT.ex (n := (t.1.length : Int)) (by omega) (by omega) (t := t) (M := M)
        rw [hdP_take k0] at ex
        have egp := gp_ok ht hn hg (s :: (ch ++ [k])) barred
        have cons : ∀ z : List Int, hdP s k ch ++ (k :: z) = (hdP s k ch ++ [k]) ++ z := fun z => by rw [List.append_assoc]; rfl
        have bl := D.l
        by_cases q : ∃ r' ∈ sbl (rangeL (k + 1) (t.1.length : Int)), Fse t s ((hdP s k ch ++ [k]) ++ r') = some M
        · have mx : mxI (famk (s :: (ch ++ [k])) barred (Fse t s) (rangeL 0 (t.1.length : Int))) = some M := by
            obtain ⟨z, hz, ez⟩ := ex.mpr q
            refine mx_eq (List.mem_filterMap.mpr ⟨z, hz, ez⟩) fun y hy => ?_
            obtain ⟨z2, hz2, ez2⟩ := List.mem_filterMap.mp hy
            exact hM z2 (sbk_sbl hz2) y ez2
          obtain ⟨r', hr', he'⟩ := q
          obtain ⟨r0, f0, fl, g1, g2⟩ := bp_loop hs0 hs1 hM m (k + 1) (by omega) (by omega) (ch ++ [k]) barred DT ⟨r', hr', by rw [hdP_take k0]; exact he'⟩
          rw [hdP_take k0] at f0 g2
          refine ⟨k :: r0, ?_, fl, ?_, by rw [cons]; exact g2⟩
          · have : (fun z => decide (Fse t s (hdP s k ch ++ (k :: z)) = some M)) = fun z => decide (Fse t s ((hdP s k ch ++ [k]) ++ z) = some M) := funext fun z => by rw [cons]
            rw [this, f0]
            rfl
          · rw [← g1]
            refine loopM_nx ?_
            rw [turn]
            unfold tlP
            rw [if_pos ks, chk_b (by show (s :: ch).length + 1 < _; rw [List.length_cons]; omega)]
            show (m_greatest_piece t fs (s :: (ch ++ [k])) barred >>= _) = _
            rw [bind_ok egp, mx, if_pos rfl, bind_ok (appL_ok (by rw [List.length_cons]; omega))]
            rfl
        · have mx : mxI (famk (s :: (ch ++ [k])) barred (Fse t s) (rangeL 0 (t.1.length : Int))) ≠ some M := fun z => by
            rcases mx_is (L := famk (s :: (ch ++ [k])) barred (Fse t s) (rangeL 0 (t.1.length : Int))) with ⟨e, _⟩ | ⟨y, e, hy, _⟩
            · rw [e] at z; exact nomatch z
            · rw [e] at z
              have z := Option.some.inj z
              subst z
              obtain ⟨w, hw, ew⟩ := List.mem_filterMap.mp hy
              exact q (ex.mp ⟨w, hw, ew⟩)
          have hr2 : r ∈ sbl (rangeL (k + 1) (t.1.length : Int)) := by
            rcases List.mem_append.mp hr with w | w
            · obtain ⟨r', hr', rfl⟩ := List.mem_map.mp w
              exact (q ⟨r', hr', by rw [← cons]; exact he⟩).elim
            · exact w
          have hh : hdP s (k + 1) ch = hdP s k ch := by
            rw [hdP_next k0, if_neg fun w => ?_, List.append_nil]
            rcases List.mem_cons.mp w with w | w
            · exact ks w
            · have := D.h k w; omega
          obtain ⟨r0, f0, fl, g1, g2⟩ := bp_loop hs0 hs1 hM m (k + 1) (by omega) (by omega) ch (barred ++ [k]) (D.leave k0 ks) ⟨r, hr2, by rw [hh]; exact he⟩
          rw [hh] at f0 g2
          refine ⟨r0, ?_, fl, ?_, g2⟩
          · have : ((en (rangeL (k + 1) (t.1.length : Int))).find? fun z => decide (Fse t s (hdP s k ch ++ (k :: z)) = some M)) = none := List.find?_eq_none.mpr fun z hz w => q ⟨z, en_mem.mp hz, by rw [← cons]; exact of_decide_eq_true w⟩
            rw [this]
            exact f0
          · rw [← g1]
            refine loopM_nx ?_
            rw [turn]
            unfold tlP
            rw [if_pos ks, chk_b (by show (s :: ch).length + 1 < _; rw [List.length_cons]; omega)]
            show (m_greatest_piece t fs (s :: (ch ++ [k])) barred >>= _) = _
            rw [bind_ok egp, if_neg mx, bind_ok (appL_ok (show barred.length < 16777216 by omega))]
end
theorem dec0P (s : Int) : DecP s 0 [] [] := ⟨rfl, List.not_mem_nil, fun x a b => by omega, (fun _ h => nomatch h), by decide⟩
theorem best_piece_ok {t : Tr} (ht : TreeOk t) (hn : t.1.length ≤ 100000) {s : Int} (s0 : 0 ≤ s) (s1 : s < (t.1.length : Int)) : ∃ M r, (∀ z ∈ sbl (rangeL 0 (t.1.length : Int)), ∀ v, Fse t s z = some v → v ≤ M) ∧ ((en (rangeL 0 (t.1.length : Int))).find? fun z => decide (Fse t s z = some M)) = some r ∧ m_best_piece t s = .ok r := by
  obtain ⟨fs, h1, hg⟩ := hung_ok t ht hn s0 s1
  have h2 := gp_ok ht hn hg [] []
  have e0 : famk [] [] (Fse t s) (rangeL 0 (t.1.length : Int)) = fam (Fse t s) (rangeL 0 (t.1.length : Int)) := by
    unfold famk fam
    rw [sbk_triv (h := []) (b := []) fun x _ => ⟨List.not_mem_nil, List.not_mem_nil⟩]
  rw [e0] at h2
  have one : [s] ∈ sbl (rangeL 0 (t.1.length : Int)) := by
    rw [rangeL_app s0 (by omega : s ≤ (t.1.length : Int)), sbl_app, rangeL_cons s1]
    exact List.mem_flatMap.mpr ⟨[], sbl_nil_mem _, List.mem_map.mpr ⟨[s], List.mem_append_left _ (List.mem_map.mpr ⟨[], sbl_nil_mem _, rfl⟩), rfl⟩⟩
  have ne : fam (Fse t s) (rangeL 0 (t.1.length : Int)) ≠ [] := List.ne_nil_of_mem (a := Wo t [s]) (List.mem_filterMap.mpr ⟨[s], one, by
    unfold Fse Fcon
    rw [if_pos (by simp), tt_one ht, if_pos (show 0 + 1 = [s].length from rfl)]⟩)
  rcases mx_is (L := fam (Fse t s) (rangeL 0 (t.1.length : Int))) with ⟨_, z⟩ | ⟨M, e, m1, m2⟩
  · exact (ne z).elim
  · rw [e] at h2
    have hM : ∀ z ∈ sbl (rangeL 0 (t.1.length : Int)), ∀ v, Fse t s z = some v → v ≤ M := fun z hz v hv => m2 v (List.mem_filterMap.mpr ⟨z, hz, hv⟩)
    obtain ⟨z0, hz0, ez0⟩ := List.mem_filterMap.mp m1
    obtain ⟨r, f1, fl, g1, g2⟩ := bp_loop ht hn hg s0 s1 hM t.1.length 0 (Int.le_refl 0) (by omega) [] [] (dec0P s) ⟨z0, hz0, ez0⟩
    refine ⟨M, r, hM, f1, ?_⟩
    unfold m_best_piece
    rw [bind_ok (show m_need_place t s = .ok () by unfold m_need_place; rw [if_pos s0, if_pos s1]), bind_ok h1, bind_ok h2, chk_b (show okR (t.1.length : Int) from ⟨by omega, by omega⟩)]
    refine (bind_ok (show loopM _ (rangeL 0 (t.1.length : Int)) ([s], []) = .ok fl from g1) _).trans ?_
    rcases g2 with e | ⟨ch', bb, e, e2⟩
    · rw [e]; rfl
    · rw [e]
      show Except.ok (sortT (s :: ch')) = _
      rw [e2]
      rfl
theorem best_piece_no (t : Tr) {s : Int} (h : s < 0 ∨ (t.1.length : Int) ≤ s) : m_best_piece t s = raise "NoPlace" := by
  unfold m_best_piece m_need_place
  by_cases c : 0 ≤ s
  · rw [if_pos c, if_neg (by omega)]; rfl
  · rw [if_neg c]; rfl

theorem told30 {r : List Int} {due : Option (List Int)} (h : due = some r) (hl : r.length < 16777216) : m_law_told r due = .ok (true, r ++ [0]) := by
  unfold m_law_told
  rw [h, if_neg (fun z => z rfl)]
  refine compS_mapB (fun _ => true) hl (fun _ _ => rfl) ?_
  dsimp only
  rw [if_pos (by rw [List.all_map]; exact List.all_eq_true.mpr fun _ _ => rfl), bind_ok (appL_ok hl)]
theorem find_in {P : List Int → Bool} {n : Nat} {r : List Int} (h : (en (rangeL 0 (n : Int))).find? P = some r) : r.length ≤ n ∧ r ∈ en (rangeL 0 (n : Int)) := by
  have hm := List.mem_of_find?_eq_some h
  have := (sbl_sub (en_mem.mp hm)).length_le
  rw [rangeL_length] at this
  exact ⟨by omega, hm⟩
theorem filt_map {a : Type} (p : a → Bool) : ∀ l : List a, (l.filterMap fun z => if p z = true then some z else none) = l.filter p
  | [] => rfl
  | x :: l => by
    rw [List.filterMap_cons, List.filter_cons, filt_map p l]
    by_cases c : p x = true
    · rw [if_pos c, if_pos c]
    · rw [if_neg c, if_neg c]
theorem law_true (ns : List Int) (h : ns.length ≤ 63) : m_law ns = .ok true := by
  obtain ⟨t, e1, ht, hl9, hwb⟩ := btree9 ns 9 (-4) (by decide) (by decide) (by decide) (by decide)
  have hn : t.1.length ≤ 100000 := by omega
  have hlen := ht.len
  have hpos := ht.pos
  obtain ⟨E, hE⟩ : ∃ E, E = en (rangeL 0 (t.1.length : Int)) := ⟨_, rfl⟩
  have es := law_some_en t.1.length hl9
  rw [← hE] at es
  have El : E.length < 16777216 := by
    have len : ∀ xs : List Int, (en xs).length = 2 ^ xs.length := fun xs => by
      induction xs with
      | nil => rfl
      | cons x xs ih =>
        show ([] :: ((en xs).map (x :: ·) ++ (en xs).tail)).length = _
        have : 1 ≤ 2 ^ xs.length := Nat.one_le_two_pow
        rw [List.length_cons, List.length_append, List.length_map, List.length_tail, ih, List.length_cons, Nat.pow_succ]
        omega
    rw [hE, len, rangeL_length]
    exact Nat.lt_of_le_of_lt (Nat.pow_le_pow_right (by decide) (show _ ≤ 9 by omega)) (by decide)
  have Em : ∀ s ∈ E, s.length < 16777216 ∧ ∀ x ∈ s, 0 ≤ x ∧ x < (t.1.length : Int) := fun s hs => by
    rw [hE] at hs
    have h1 := sbl_rg (en_mem.mp hs)
    exact ⟨by omega, h1.2⟩
  have bnd : t.2.length < 16777216 := by omega
  -- the best set
  obtain ⟨M, r, hM, fr, eb⟩ := best_set_ok ht hn
  rw [← hE] at fr
  have hFind : ∀ s, decide (Find t s = some M) = (decide (tt t s = 0) && decide (Wo t s = M)) := fun s => by
    unfold Find
    by_cases c : tt t s = 0
    · rw [if_pos c, decide_eq_true c, Bool.true_and]
      exact decide_eq_decide.mpr ⟨fun e => Option.some.inj e, fun e => by rw [e]⟩
    · rw [if_neg c, decide_eq_false c, Bool.false_and]
      exact decide_eq_false fun z => nomatch z
  have due : m_law_best t (E.filter fun s => decide (tt t s = 0)) = .ok (some r) := by
    have hr := List.find?_some fr
    have hrm := List.mem_of_find?_eq_some fr
    rw [hFind, Bool.and_eq_true, decide_eq_true_eq, decide_eq_true_eq] at hr
    rw [law_best_ok (fun s hs => Em s (List.mem_filter.mp hs).1) (M := M) ⟨r, List.mem_filter.mpr ⟨hrm, decide_eq_true hr.1⟩, hr.2⟩ fun s hs => by
      obtain ⟨h1, h2⟩ := List.mem_filter.mp hs
      rw [hE] at h1
      exact hM s (en_mem.mp h1) _ (by unfold Find; rw [if_pos (of_decide_eq_true h2)])]
    rw [List.find?_filter, ← fr]
    refine congrArg (fun P => Except.ok (E.find? P)) (funext fun s => ?_)
    rw [hFind]
    exact Bool.eq_iff_iff.mpr (by rw [decide_eq_true_eq, Bool.and_eq_true])
  have rl : r.length < 16777216 := by
    rw [hE] at fr
    have := (find_in fr).1
    omega
  unfold m_law
  rw [bind_ok e1, bind_ok (show m_law_copied t = .ok t from rfl), bind_ok es]
  refine compS_pureB (fun s => if decide (tt t s = 0) = true then some s else none) El (fun s _ => ?_) ?_
  · rw [bind_ok (law_tied_ok bnd s)]
    by_cases c : tt t s = 0
    · rw [if_pos (by omega), if_pos (decide_eq_true c)]
    · rw [if_neg (by omega), if_neg (by simpa using c)]
  dsimp only
  rw [filt_map, bind_ok due, chk_b (show okR 2 by decide)]
  refine loopM_allB (fun y _ => ?_) ?_
  · rw [bind_ok eb, bind_ok (told30 rfl rl), if_pos rfl]
  dsimp only
  refine compS_pureB (fun s => if (decide (s ≠ []) && decide (tt t s + 1 = s.length)) = true then some s else none) El (fun s _ => ?_) ?_
  · by_cases c : s ≠ []
    · rw [if_pos c, bind_ok (law_tied_ok bnd s), decide_eq_true c, Bool.true_and]
      by_cases d : tt t s + 1 = s.length
      · rw [if_pos (by omega), if_pos (decide_eq_true d)]
      · rw [if_neg (by omega), if_neg (by simpa using d)]
    · rw [if_neg c, decide_eq_false c]
      rfl
  dsimp only
  rw [filt_map, chk_b (show okR (t.1.length : Int) from ⟨by omega, by omega⟩)]
  refine loopM_allB (fun p hp => ?_) ?_
  · have hp := rangeL_mem.mp hp
    obtain ⟨M, r, hM, fr, eb⟩ := best_piece_ok ht hn hp.1 hp.2
    rw [← hE] at fr
    have hFse : ∀ s, decide (Fse t p s = some M) = ((decide (p ∈ s) && (decide (s ≠ []) && decide (tt t s + 1 = s.length))) && decide (Wo t s = M)) := fun s => by
      unfold Fse Fcon
      by_cases c : p ∈ s
      · rw [if_pos c, decide_eq_true c, decide_eq_true (List.ne_nil_of_mem c), Bool.true_and, Bool.true_and]
        by_cases d : tt t s + 1 = s.length
        · rw [if_pos d, decide_eq_true d, Bool.true_and]
          exact decide_eq_decide.mpr ⟨fun e => Option.some.inj e, fun e => by rw [e]⟩
        · rw [if_neg d, decide_eq_false d, Bool.false_and]
          exact decide_eq_false fun z => nomatch z
      · rw [if_neg c, decide_eq_false c, Bool.false_and, Bool.false_and]
        exact decide_eq_false fun z => nomatch z
    have rl : r.length < 16777216 := by
      rw [hE] at fr
      have := (find_in fr).1
      omega
    rw [bind_ok eb]
    refine compS_pureB (fun s => if decide (p ∈ s) = true then some s else none) (Nat.lt_of_le_of_lt (List.length_filter_le _ _) El) (fun s _ => ?_) ?_
    · by_cases c : p ∈ s
      · rw [if_pos c, if_pos (decide_eq_true c)]
      · rw [if_neg c, if_neg (by simpa using c)]
    dsimp only
    rw [filt_map, List.filter_filter]
    have hr := List.find?_some fr
    have hrm := List.mem_of_find?_eq_some fr
    rw [hFse, Bool.and_eq_true, decide_eq_true_eq (p := Wo t r = M)] at hr
    have due : m_law_best t (E.filter fun s => decide (p ∈ s) && (decide (s ≠ []) && decide (tt t s + 1 = s.length))) = .ok (some r) := by
      rw [law_best_ok (fun s hs => Em s (List.mem_filter.mp hs).1) (M := M) ⟨r, List.mem_filter.mpr ⟨hrm, hr.1⟩, hr.2⟩ fun s hs => by
        obtain ⟨h1, h2⟩ := List.mem_filter.mp hs
        rw [hE] at h1
        rw [Bool.and_eq_true, Bool.and_eq_true, decide_eq_true_eq, decide_eq_true_eq, decide_eq_true_eq] at h2
        exact hM s (en_mem.mp h1) _ (by unfold Fse Fcon; rw [if_pos h2.1, if_pos h2.2.2])]
      rw [List.find?_filter, ← fr]
      refine congrArg (fun P => Except.ok (E.find? P)) (funext fun s => ?_)
      rw [hFse]
      exact Bool.eq_iff_iff.mpr (by simp only [decide_eq_true_eq, Bool.and_eq_true])
    rw [bind_ok due, bind_ok (told30 rfl rl), if_pos rfl]
  dsimp only
  obtain ⟨c5, e5⟩ := cell_ok ns 5 (by decide)
  have m0 := Int.emod_nonneg c5 (show (10 : Int) ^ Int.toNat (20 : Int) ≠ 0 by decide)
  rw [bind_ok e5, chk_b (by decide)]
  generalize c5 % (10 : Int) ^ Int.toNat (20 : Int) = q at m0
  refine loopM_allB (fun y hy => ?_) ?_
  · have no : y < 0 ∨ (t.1.length : Int) ≤ y := by
      simp only [List.mem_cons, List.not_mem_nil, or_false] at hy
      rcases hy with e | e | e | e <;> omega
    have : m_law_refused t y = .ok true := by
      unfold m_law_refused
      rw [best_piece_no t no]
      rfl
    rw [bind_ok this, if_pos rfl]
  dsimp only
  exact congrArg Except.ok (decide_eq_true rfl)

theorem all_mk {P : Program} {w : World} {K : PySem.W.Frag} {h : Heap} {mg : Str → Option Value} {fa f1 f2 f3 f4 f5 f6 f7 f8 f9 f10 f11 f12 f13 f14 f15 f16 f17 f18 f19 f20 f21 f22 f23 f24 C_NoPlace C_SeatError C_NoLength C_NoName C_NoOrder C_NoPaper C_NoRule C_NoText C_NoTie C_NoTree : Addr} {od1 an1 od2 an2 od3 an3 od4 an4 od5 an5 od6 an6 od7 an7 od8 an8 od9 an9 od10 an10 od11 an11 od12 an12 od13 an13 od14 an14 od15 an15 od16 an16 od17 an17 od18 an18 od19 an19 od20 an20 od21 an21 od22 an22 od23 an23 od24 an24 : Option Addr} {sl1 sl2 sl3 sl4 sl5 sl6 sl7 sl8 sl9 sl10 sl11 sl12 sl13 sl14 sl15 sl16 sl17 sl18 sl19 sl20 sl21 sl22 sl23 sl24 : Array (Option Value)} {oc1 kV1 dc1 pm1 cd1 ct1 oc2 kV2 dc2 pm2 cd2 ct2 oc3 kV3 dc3 pm3 cd3 ct3 oc4 kV4 dc4 pm4 cd4 ct4 oc5 kV5 dc5 pm5 cd5 ct5 oc6 kV6 dc6 pm6 cd6 ct6 oc7 kV7 dc7 pm7 cd7 ct7 oc8 kV8 dc8 pm8 cd8 ct8 oc9 kV9 dc9 pm9 cd9 ct9 oc10 kV10 dc10 pm10 cd10 ct10 oc11 kV11 dc11 pm11 cd11 ct11 oc12 kV12 dc12 pm12 cd12 ct12 oc13 kV13 dc13 pm13 cd13 ct13 oc14 kV14 dc14 pm14 cd14 ct14 oc15 kV15 dc15 pm15 cd15 ct15 oc16 kV16 dc16 pm16 cd16 ct16 oc17 kV17 dc17 pm17 cd17 ct17 oc18 kV18 dc18 pm18 cd18 ct18 oc19 kV19 dc19 pm19 cd19 ct19 oc20 kV20 dc20 pm20 cd20 ct20 oc21 kV21 dc21 pm21 cd21 ct21 oc22 kV22 dc22 pm22 cd22 ct22 oc23 kV23 dc23 pm23 cd23 ct23 oc24 kV24 dc24 pm24 cd24 ct24 : Value} (X : K.In h) (G : h.Ns mainGlobals mg) (hfa : mg "law" = some (.ref fa))
    (a1 : PySem.W.nsIn K mainGlobals "tied_places" = some (some (.ref f1))) (l1 : K.lookup f1 = some ⟨oc1, od1, .func (PySem.W.fnOf "tied_places" "tied_places" (defArgs s_tied_places) (defBody s_tied_places) (defScope s_tied_places) .none kV1 dc1 pm1 an1 cd1 ct1), sl1⟩) (c1 : PySem.W.codeIn K cd1 "tied_places" = true) (k1 : PySem.W.keepIn K (.ref f1) = true)
    (a2 : PySem.W.nsIn K mainGlobals "need_place" = some (some (.ref f2))) (l2 : K.lookup f2 = some ⟨oc2, od2, .func (PySem.W.fnOf "need_place" "need_place" (defArgs s_need_place) (defBody s_need_place) (defScope s_need_place) .none kV2 dc2 pm2 an2 cd2 ct2), sl2⟩) (c2 : PySem.W.codeIn K cd2 "need_place" = true) (k2 : PySem.W.keepIn K (.ref f2) = true)
    (a3 : PySem.W.nsIn K mainGlobals "tied_to" = some (some (.ref f3))) (l3 : K.lookup f3 = some ⟨oc3, od3, .func (PySem.W.fnOf "tied_to" "tied_to" (defArgs s_tied_to) (defBody s_tied_to) (defScope s_tied_to) .none kV3 dc3 pm3 an3 cd3 ct3), sl3⟩) (c3 : PySem.W.codeIn K cd3 "tied_to" = true) (k3 : PySem.W.keepIn K (.ref f3) = true)
    (a4 : PySem.W.nsIn K mainGlobals "hung_from" = some (some (.ref f4))) (l4 : K.lookup f4 = some ⟨oc4, od4, .func (PySem.W.fnOf "hung_from" "hung_from" (defArgs s_hung_from) (defBody s_hung_from) (defScope s_hung_from) .none kV4 dc4 pm4 an4 cd4 ct4), sl4⟩) (c4 : PySem.W.codeIn K cd4 "hung_from" = true) (k4 : PySem.W.keepIn K (.ref f4) = true)
    (a5 : PySem.W.nsIn K mainGlobals "put_together" = some (some (.ref f5))) (l5 : K.lookup f5 = some ⟨oc5, od5, .func (PySem.W.fnOf "put_together" "put_together" (defArgs s_put_together) (defBody s_put_together) (defScope s_put_together) .none kV5 dc5 pm5 an5 cd5 ct5), sl5⟩) (c5 : PySem.W.codeIn K cd5 "put_together" = true) (k5 : PySem.W.keepIn K (.ref f5) = true)
    (a6 : PySem.W.nsIn K mainGlobals "greatest_apart" = some (some (.ref f6))) (l6 : K.lookup f6 = some ⟨oc6, od6, .func (PySem.W.fnOf "greatest_apart" "greatest_apart" (defArgs s_greatest_apart) (defBody s_greatest_apart) (defScope s_greatest_apart) .none kV6 dc6 pm6 an6 cd6 ct6), sl6⟩) (c6 : PySem.W.codeIn K cd6 "greatest_apart" = true) (k6 : PySem.W.keepIn K (.ref f6) = true)
    (a7 : PySem.W.nsIn K mainGlobals "best_set" = some (some (.ref f7))) (l7 : K.lookup f7 = some ⟨oc7, od7, .func (PySem.W.fnOf "best_set" "best_set" (defArgs s_best_set) (defBody s_best_set) (defScope s_best_set) .none kV7 dc7 pm7 an7 cd7 ct7), sl7⟩) (c7 : PySem.W.codeIn K cd7 "best_set" = true) (k7 : PySem.W.keepIn K (.ref f7) = true)
    (a8 : PySem.W.nsIn K mainGlobals "greatest_piece" = some (some (.ref f8))) (l8 : K.lookup f8 = some ⟨oc8, od8, .func (PySem.W.fnOf "greatest_piece" "greatest_piece" (defArgs s_greatest_piece) (defBody s_greatest_piece) (defScope s_greatest_piece) .none kV8 dc8 pm8 an8 cd8 ct8), sl8⟩) (c8 : PySem.W.codeIn K cd8 "greatest_piece" = true) (k8 : PySem.W.keepIn K (.ref f8) = true)
    (a9 : PySem.W.nsIn K mainGlobals "hangs" = some (some (.ref f9))) (l9 : K.lookup f9 = some ⟨oc9, od9, .func (PySem.W.fnOf "hangs" "hangs" (defArgs s_hangs) (defBody s_hangs) (defScope s_hangs) .none kV9 dc9 pm9 an9 cd9 ct9), sl9⟩) (c9 : PySem.W.codeIn K cd9 "hangs" = true) (k9 : PySem.W.keepIn K (.ref f9) = true)
    (a10 : PySem.W.nsIn K mainGlobals "best_piece" = some (some (.ref f10))) (l10 : K.lookup f10 = some ⟨oc10, od10, .func (PySem.W.fnOf "best_piece" "best_piece" (defArgs s_best_piece) (defBody s_best_piece) (defScope s_best_piece) .none kV10 dc10 pm10 an10 cd10 ct10), sl10⟩) (c10 : PySem.W.codeIn K cd10 "best_piece" = true) (k10 : PySem.W.keepIn K (.ref f10) = true)
    (a11 : PySem.W.nsIn K mainGlobals "_law_cell_at" = some (some (.ref f11))) (l11 : K.lookup f11 = some ⟨oc11, od11, .func (PySem.W.fnOf "_law_cell_at" "_law_cell_at" (defArgs s_law_cell_at) (defBody s_law_cell_at) (defScope s_law_cell_at) .none kV11 dc11 pm11 an11 cd11 ct11), sl11⟩) (c11 : PySem.W.codeIn K cd11 "_law_cell_at" = true) (k11 : PySem.W.keepIn K (.ref f11) = true)
    (a12 : PySem.W.nsIn K mainGlobals "_law_numbers" = some (some (.ref f12))) (l12 : K.lookup f12 = some ⟨oc12, od12, .func (PySem.W.fnOf "_law_numbers" "_law_numbers" (defArgs s_law_numbers) (defBody s_law_numbers) (defScope s_law_numbers) .none kV12 dc12 pm12 an12 cd12 ct12), sl12⟩) (c12 : PySem.W.codeIn K cd12 "_law_numbers" = true) (k12 : PySem.W.keepIn K (.ref f12) = true)
    (a13 : PySem.W.nsIn K mainGlobals "_law_whole" = some (some (.ref f13))) (l13 : K.lookup f13 = some ⟨oc13, od13, .func (PySem.W.fnOf "_law_whole" "_law_whole" (defArgs s_law_whole) (defBody s_law_whole) (defScope s_law_whole) .none kV13 dc13 pm13 an13 cd13 ct13), sl13⟩) (c13 : PySem.W.codeIn K cd13 "_law_whole" = true) (k13 : PySem.W.keepIn K (.ref f13) = true)
    (a14 : PySem.W.nsIn K mainGlobals "_law_worths" = some (some (.ref f14))) (l14 : K.lookup f14 = some ⟨oc14, od14, .func (PySem.W.fnOf "_law_worths" "_law_worths" (defArgs s_law_worths) (defBody s_law_worths) (defScope s_law_worths) .none kV14 dc14 pm14 an14 cd14 ct14), sl14⟩) (c14 : PySem.W.codeIn K cd14 "_law_worths" = true) (k14 : PySem.W.keepIn K (.ref f14) = true)
    (a15 : PySem.W.nsIn K mainGlobals "_law_ties" = some (some (.ref f15))) (l15 : K.lookup f15 = some ⟨oc15, od15, .func (PySem.W.fnOf "_law_ties" "_law_ties" (defArgs s_law_ties) (defBody s_law_ties) (defScope s_law_ties) .none kV15 dc15 pm15 an15 cd15 ct15), sl15⟩) (c15 : PySem.W.codeIn K cd15 "_law_ties" = true) (k15 : PySem.W.keepIn K (.ref f15) = true)
    (a16 : PySem.W.nsIn K mainGlobals "_law_tree" = some (some (.ref f16))) (l16 : K.lookup f16 = some ⟨oc16, od16, .func (PySem.W.fnOf "_law_tree" "_law_tree" (defArgs s_law_tree) (defBody s_law_tree) (defScope s_law_tree) .none kV16 dc16 pm16 an16 cd16 ct16), sl16⟩) (c16 : PySem.W.codeIn K cd16 "_law_tree" = true) (k16 : PySem.W.keepIn K (.ref f16) = true)
    (a17 : PySem.W.nsIn K mainGlobals "_law_some" = some (some (.ref f17))) (l17 : K.lookup f17 = some ⟨oc17, od17, .func (PySem.W.fnOf "_law_some" "_law_some" (defArgs s_law_some) (defBody s_law_some) (defScope s_law_some) .none kV17 dc17 pm17 an17 cd17 ct17), sl17⟩) (c17 : PySem.W.codeIn K cd17 "_law_some" = true) (k17 : PySem.W.keepIn K (.ref f17) = true)
    (a18 : PySem.W.nsIn K mainGlobals "_law_tied" = some (some (.ref f18))) (l18 : K.lookup f18 = some ⟨oc18, od18, .func (PySem.W.fnOf "_law_tied" "_law_tied" (defArgs s_law_tied) (defBody s_law_tied) (defScope s_law_tied) .none kV18 dc18 pm18 an18 cd18 ct18), sl18⟩) (c18 : PySem.W.codeIn K cd18 "_law_tied" = true) (k18 : PySem.W.keepIn K (.ref f18) = true)
    (a19 : PySem.W.nsIn K mainGlobals "_law_worth_of" = some (some (.ref f19))) (l19 : K.lookup f19 = some ⟨oc19, od19, .func (PySem.W.fnOf "_law_worth_of" "_law_worth_of" (defArgs s_law_worth_of) (defBody s_law_worth_of) (defScope s_law_worth_of) .none kV19 dc19 pm19 an19 cd19 ct19), sl19⟩) (c19 : PySem.W.codeIn K cd19 "_law_worth_of" = true) (k19 : PySem.W.keepIn K (.ref f19) = true)
    (a20 : PySem.W.nsIn K mainGlobals "_law_copied" = some (some (.ref f20))) (l20 : K.lookup f20 = some ⟨oc20, od20, .func (PySem.W.fnOf "_law_copied" "_law_copied" (defArgs s_law_copied) (defBody s_law_copied) (defScope s_law_copied) .none kV20 dc20 pm20 an20 cd20 ct20), sl20⟩) (c20 : PySem.W.codeIn K cd20 "_law_copied" = true) (k20 : PySem.W.keepIn K (.ref f20) = true)
    (a21 : PySem.W.nsIn K mainGlobals "_law_best" = some (some (.ref f21))) (l21 : K.lookup f21 = some ⟨oc21, od21, .func (PySem.W.fnOf "_law_best" "_law_best" (defArgs s_law_best) (defBody s_law_best) (defScope s_law_best) .none kV21 dc21 pm21 an21 cd21 ct21), sl21⟩) (c21 : PySem.W.codeIn K cd21 "_law_best" = true) (k21 : PySem.W.keepIn K (.ref f21) = true)
    (a22 : PySem.W.nsIn K mainGlobals "_law_refused" = some (some (.ref f22))) (l22 : K.lookup f22 = some ⟨oc22, od22, .func (PySem.W.fnOf "_law_refused" "_law_refused" (defArgs s_law_refused) (defBody s_law_refused) (defScope s_law_refused) .none kV22 dc22 pm22 an22 cd22 ct22), sl22⟩) (c22 : PySem.W.codeIn K cd22 "_law_refused" = true) (k22 : PySem.W.keepIn K (.ref f22) = true)
    (a23 : PySem.W.nsIn K mainGlobals "_law_told" = some (some (.ref f23))) (l23 : K.lookup f23 = some ⟨oc23, od23, .func (PySem.W.fnOf "_law_told" "_law_told" (defArgs s_law_told) (defBody s_law_told) (defScope s_law_told) .none kV23 dc23 pm23 an23 cd23 ct23), sl23⟩) (c23 : PySem.W.codeIn K cd23 "_law_told" = true) (k23 : PySem.W.keepIn K (.ref f23) = true)
    (a24 : PySem.W.nsIn K mainGlobals "law" = some (some (.ref f24))) (l24 : K.lookup f24 = some ⟨oc24, od24, .func (PySem.W.fnOf "law" "law" (defArgs s_law) (defBody s_law) (defScope s_law) .none kV24 dc24 pm24 an24 cd24 ct24), sl24⟩) (c24 : PySem.W.codeIn K cd24 "law" = true) (k24 : PySem.W.keepIn K (.ref f24) = true)
    (ga_NoPlace : PySem.W.nsIn K mainGlobals "NoPlace" = some (some (.ref C_NoPlace))) (gx_NoPlace : PySem.W.excIn K C_NoPlace [.type "ValueError", .type "Exception", .type "BaseException", .type "object"] "ValueError.__new__" = true) (gk_NoPlace : PySem.W.keepIn K (.ref C_NoPlace) = true) (gb_NoPlace : PySem.W.subIn K (.ref C_NoPlace) (.type "BaseException") = some true) (gt_NoPlace : PySem.W.typeIn K (.ref C_NoPlace) = some (.type "type"))
    (ga_SeatError : PySem.W.nsIn K mainGlobals "SeatError" = some (some (.ref C_SeatError)))
    (xd_SeatError : PySem.W.hasDictIn K C_SeatError = true)
    (xt_SeatError : PySem.W.typeIn K (.ref C_SeatError) = some (.type "type"))
    (xn_SeatError : PySem.W.subIn K (.type "NoneType") (.ref C_SeatError) = some false)
    (xb_SeatError : PySem.W.subIn K (.ref C_SeatError) (.type "BaseException") = some true)
    (xs_SeatError_SeatError : PySem.W.subIn K (.ref C_SeatError) (.ref C_SeatError) = some true)
    (xd_NoPlace : PySem.W.hasDictIn K C_NoPlace = true)
    (xt_NoPlace : PySem.W.typeIn K (.ref C_NoPlace) = some (.type "type"))
    (xn_NoPlace : PySem.W.subIn K (.type "NoneType") (.ref C_NoPlace) = some false)
    (xb_NoPlace : PySem.W.subIn K (.ref C_NoPlace) (.type "BaseException") = some true)
    (xs_NoPlace_NoPlace : PySem.W.subIn K (.ref C_NoPlace) (.ref C_NoPlace) = some true)
    (ga_NoLength : PySem.W.nsIn K mainGlobals "NoLength" = some (some (.ref C_NoLength)))
    (xd_NoLength : PySem.W.hasDictIn K C_NoLength = true)
    (xt_NoLength : PySem.W.typeIn K (.ref C_NoLength) = some (.type "type"))
    (xn_NoLength : PySem.W.subIn K (.type "NoneType") (.ref C_NoLength) = some false)
    (xb_NoLength : PySem.W.subIn K (.ref C_NoLength) (.type "BaseException") = some true)
    (xs_NoLength_NoLength : PySem.W.subIn K (.ref C_NoLength) (.ref C_NoLength) = some true)
    (ga_NoName : PySem.W.nsIn K mainGlobals "NoName" = some (some (.ref C_NoName)))
    (xd_NoName : PySem.W.hasDictIn K C_NoName = true)
    (xt_NoName : PySem.W.typeIn K (.ref C_NoName) = some (.type "type"))
    (xn_NoName : PySem.W.subIn K (.type "NoneType") (.ref C_NoName) = some false)
    (xb_NoName : PySem.W.subIn K (.ref C_NoName) (.type "BaseException") = some true)
    (xs_NoName_NoName : PySem.W.subIn K (.ref C_NoName) (.ref C_NoName) = some true)
    (ga_NoOrder : PySem.W.nsIn K mainGlobals "NoOrder" = some (some (.ref C_NoOrder)))
    (xd_NoOrder : PySem.W.hasDictIn K C_NoOrder = true)
    (xt_NoOrder : PySem.W.typeIn K (.ref C_NoOrder) = some (.type "type"))
    (xn_NoOrder : PySem.W.subIn K (.type "NoneType") (.ref C_NoOrder) = some false)
    (xb_NoOrder : PySem.W.subIn K (.ref C_NoOrder) (.type "BaseException") = some true)
    (xs_NoOrder_NoOrder : PySem.W.subIn K (.ref C_NoOrder) (.ref C_NoOrder) = some true)
    (ga_NoPaper : PySem.W.nsIn K mainGlobals "NoPaper" = some (some (.ref C_NoPaper)))
    (xd_NoPaper : PySem.W.hasDictIn K C_NoPaper = true)
    (xt_NoPaper : PySem.W.typeIn K (.ref C_NoPaper) = some (.type "type"))
    (xn_NoPaper : PySem.W.subIn K (.type "NoneType") (.ref C_NoPaper) = some false)
    (xb_NoPaper : PySem.W.subIn K (.ref C_NoPaper) (.type "BaseException") = some true)
    (xs_NoPaper_NoPaper : PySem.W.subIn K (.ref C_NoPaper) (.ref C_NoPaper) = some true)
    (ga_NoRule : PySem.W.nsIn K mainGlobals "NoRule" = some (some (.ref C_NoRule)))
    (xd_NoRule : PySem.W.hasDictIn K C_NoRule = true)
    (xt_NoRule : PySem.W.typeIn K (.ref C_NoRule) = some (.type "type"))
    (xn_NoRule : PySem.W.subIn K (.type "NoneType") (.ref C_NoRule) = some false)
    (xb_NoRule : PySem.W.subIn K (.ref C_NoRule) (.type "BaseException") = some true)
    (xs_NoRule_NoRule : PySem.W.subIn K (.ref C_NoRule) (.ref C_NoRule) = some true)
    (ga_NoText : PySem.W.nsIn K mainGlobals "NoText" = some (some (.ref C_NoText)))
    (xd_NoText : PySem.W.hasDictIn K C_NoText = true)
    (xt_NoText : PySem.W.typeIn K (.ref C_NoText) = some (.type "type"))
    (xn_NoText : PySem.W.subIn K (.type "NoneType") (.ref C_NoText) = some false)
    (xb_NoText : PySem.W.subIn K (.ref C_NoText) (.type "BaseException") = some true)
    (xs_NoText_NoText : PySem.W.subIn K (.ref C_NoText) (.ref C_NoText) = some true)
    (ga_NoTie : PySem.W.nsIn K mainGlobals "NoTie" = some (some (.ref C_NoTie)))
    (xd_NoTie : PySem.W.hasDictIn K C_NoTie = true)
    (xt_NoTie : PySem.W.typeIn K (.ref C_NoTie) = some (.type "type"))
    (xn_NoTie : PySem.W.subIn K (.type "NoneType") (.ref C_NoTie) = some false)
    (xb_NoTie : PySem.W.subIn K (.ref C_NoTie) (.type "BaseException") = some true)
    (xs_NoTie_NoTie : PySem.W.subIn K (.ref C_NoTie) (.ref C_NoTie) = some true)
    (ga_NoTree : PySem.W.nsIn K mainGlobals "NoTree" = some (some (.ref C_NoTree)))
    (xd_NoTree : PySem.W.hasDictIn K C_NoTree = true)
    (xt_NoTree : PySem.W.typeIn K (.ref C_NoTree) = some (.type "type"))
    (xn_NoTree : PySem.W.subIn K (.type "NoneType") (.ref C_NoTree) = some false)
    (xb_NoTree : PySem.W.subIn K (.ref C_NoTree) (.type "BaseException") = some true)
    (xs_NoTree_NoTree : PySem.W.subIn K (.ref C_NoTree) (.ref C_NoTree) = some true)
    (xg_NoPlace : PySem.W.findIn K (.ref C_NoPlace) "__getattribute__" = some (some (.builtin "BaseException.__getattribute__")))
    (xk_NoPlace : PySem.W.findIn K (.ref C_NoPlace) "__getattr__" = some none)
    (xc_NoPlace : PySem.W.findIn K (.ref C_NoPlace) "__class__" = some (some (.builtin "object.__class__")))
    (xm_NoPlace : PySem.W.mroIn K C_NoPlace (.type "object") = some true)
    (xv_NoPlace : PySem.W.subIn K (.ref C_NoPlace) (.type "ValueError") = some true)
    (xs_NoPlace_SeatError : PySem.W.subIn K (.ref C_NoPlace) (.ref C_SeatError) = some true)
    (xs_NoPlace_NoLength : PySem.W.subIn K (.ref C_NoPlace) (.ref C_NoLength) = some false)
    (xs_NoPlace_NoName : PySem.W.subIn K (.ref C_NoPlace) (.ref C_NoName) = some false)
    (xs_NoPlace_NoOrder : PySem.W.subIn K (.ref C_NoPlace) (.ref C_NoOrder) = some false)
    (xs_NoPlace_NoPaper : PySem.W.subIn K (.ref C_NoPlace) (.ref C_NoPaper) = some false)
    (xs_NoPlace_NoRule : PySem.W.subIn K (.ref C_NoPlace) (.ref C_NoRule) = some false)
    (xs_NoPlace_NoText : PySem.W.subIn K (.ref C_NoPlace) (.ref C_NoText) = some false)
    (xs_NoPlace_NoTie : PySem.W.subIn K (.ref C_NoPlace) (.ref C_NoTie) = some false)
    (xs_NoPlace_NoTree : PySem.W.subIn K (.ref C_NoPlace) (.ref C_NoTree) = some false)
    (xh1 : PySem.W.specialIn K (.builtin "object.__class__") "__get__" = some (some (.builtin "getset_descriptor.__get__")))
    (xh2 : PySem.W.takesIn K (.builtin "object.__class__") = some true)
    (z_ValueError : PySem.W.nsIn K mainGlobals "ValueError" = some none)
    (z_all : PySem.W.nsIn K mainGlobals "all" = some none)
    (z_bool : PySem.W.nsIn K mainGlobals "bool" = some none)
    (z_enumerate : PySem.W.nsIn K mainGlobals "enumerate" = some none)
    (z_int : PySem.W.nsIn K mainGlobals "int" = some none)
    (z_isinstance : PySem.W.nsIn K mainGlobals "isinstance" = some none)
    (z_len : PySem.W.nsIn K mainGlobals "len" = some none)
    (z_list : PySem.W.nsIn K mainGlobals "list" = some none)
    (z_max : PySem.W.nsIn K mainGlobals "max" = some none)
    (z_min : PySem.W.nsIn K mainGlobals "min" = some none)
    (z_range : PySem.W.nsIn K mainGlobals "range" = some none)
    (z_sorted : PySem.W.nsIn K mainGlobals "sorted" = some none)
    (z_sum : PySem.W.nsIn K mainGlobals "sum" = some none) :
    ∃ fd : FuncData, (∀ (s : Shared) (v : Value), BindsTo s fd ⟨[v], []⟩ [("script", v)]) ∧ ∀ base : Heap, K.In base → base.Ns mainGlobals mg → FnOk P w K mg base (L2.CX P w) 6 fa fd ["script"] (sp_law K) := by
  haveI : KF K := ⟨⟩
  have e := hfa.symm.trans (PySem.W.mg_of X G a24)
  cases e
  have nb : Nb mg := ⟨PySem.W.mg_none_of X G z_ValueError, PySem.W.mg_none_of X G z_all, PySem.W.mg_none_of X G z_bool, PySem.W.mg_none_of X G z_enumerate, PySem.W.mg_none_of X G z_int, PySem.W.mg_none_of X G z_isinstance, PySem.W.mg_none_of X G z_len, PySem.W.mg_none_of X G z_list, PySem.W.mg_none_of X G z_max, PySem.W.mg_none_of X G z_min, PySem.W.mg_none_of X G z_range, PySem.W.mg_none_of X G z_sorted, PySem.W.mg_none_of X G z_sum⟩
  have E_NoPlace : ∃ C, Xc K mg "NoPlace" C := ⟨C_NoPlace, PySem.W.mg_of X G ga_NoPlace, gx_NoPlace, gk_NoPlace, gb_NoPlace, gt_NoPlace⟩
  have EX : ExAll K mg := ⟨C_SeatError, C_NoPlace, C_NoLength, C_NoName, C_NoOrder, C_NoPaper, C_NoRule, C_NoText, C_NoTie, C_NoTree, PySem.W.mg_of X G ga_SeatError, xd_SeatError, xt_SeatError, xn_SeatError, xb_SeatError, xs_SeatError_SeatError, PySem.W.mg_of X G ga_NoPlace, xd_NoPlace, xt_NoPlace, xn_NoPlace, xb_NoPlace, xs_NoPlace_NoPlace, PySem.W.mg_of X G ga_NoLength, xd_NoLength, xt_NoLength, xn_NoLength, xb_NoLength, xs_NoLength_NoLength, PySem.W.mg_of X G ga_NoName, xd_NoName, xt_NoName, xn_NoName, xb_NoName, xs_NoName_NoName, PySem.W.mg_of X G ga_NoOrder, xd_NoOrder, xt_NoOrder, xn_NoOrder, xb_NoOrder, xs_NoOrder_NoOrder, PySem.W.mg_of X G ga_NoPaper, xd_NoPaper, xt_NoPaper, xn_NoPaper, xb_NoPaper, xs_NoPaper_NoPaper, PySem.W.mg_of X G ga_NoRule, xd_NoRule, xt_NoRule, xn_NoRule, xb_NoRule, xs_NoRule_NoRule, PySem.W.mg_of X G ga_NoText, xd_NoText, xt_NoText, xn_NoText, xb_NoText, xs_NoText_NoText, PySem.W.mg_of X G ga_NoTie, xd_NoTie, xt_NoTie, xn_NoTie, xb_NoTie, xs_NoTie_NoTie, PySem.W.mg_of X G ga_NoTree, xd_NoTree, xt_NoTree, xn_NoTree, xb_NoTree, xs_NoTree_NoTree, ⟨xg_NoPlace, xk_NoPlace, xb_NoPlace, xd_NoPlace, xc_NoPlace, xh1, xh2, xm_NoPlace⟩, xv_NoPlace, xs_NoPlace_SeatError, xs_NoPlace_NoLength, xs_NoPlace_NoName, xs_NoPlace_NoOrder, xs_NoPlace_NoPaper, xs_NoPlace_NoRule, xs_NoPlace_NoText, xs_NoPlace_NoTie, xs_NoPlace_NoTree⟩
  have F1 := fun_mk (x := "tied_places") (st := s_tied_places) l1 c1 k1
  have D_tied_places : Df K mg "tied_places" "tied_places" s_tied_places ["many", "ties"] := ⟨_, _, F1, PySem.W.mg_of X G a1, F1.binds (ps := ["many", "ties"]) fun _ _ _ _ _ _ us hl => match us, hl with | [_, _], _ => rfl⟩
  have F2 := fun_mk (x := "need_place") (st := s_need_place) l2 c2 k2
  have D_need_place : Df K mg "need_place" "need_place" s_need_place ["tree", "place"] := ⟨_, _, F2, PySem.W.mg_of X G a2, F2.binds (ps := ["tree", "place"]) fun _ _ _ _ _ _ us hl => match us, hl with | [_, _], _ => rfl⟩
  have F3 := fun_mk (x := "tied_to") (st := s_tied_to) l3 c3 k3
  have D_tied_to : Df K mg "tied_to" "tied_to" s_tied_to ["tree", "place"] := ⟨_, _, F3, PySem.W.mg_of X G a3, F3.binds (ps := ["tree", "place"]) fun _ _ _ _ _ _ us hl => match us, hl with | [_, _], _ => rfl⟩
  have F4 := fun_mk (x := "hung_from") (st := s_hung_from) l4 c4 k4
  have D_hung_from : Df K mg "hung_from" "hung_from" s_hung_from ["tree", "seat"] := ⟨_, _, F4, PySem.W.mg_of X G a4, F4.binds (ps := ["tree", "seat"]) fun _ _ _ _ _ _ us hl => match us, hl with | [_, _], _ => rfl⟩
  have F5 := fun_mk (x := "put_together") (st := s_put_together) l5 c5 k5
  have D_put_together : Df K mg "put_together" "put_together" s_put_together ["sums", "place", "begin", "more"] := ⟨_, _, F5, PySem.W.mg_of X G a5, F5.binds (ps := ["sums", "place", "begin", "more"]) fun _ _ _ _ _ _ us hl => match us, hl with | [_, _, _, _], _ => rfl⟩
  have F6 := fun_mk (x := "greatest_apart") (st := s_greatest_apart) l6 c6 k6
  have D_greatest_apart : Df K mg "greatest_apart" "greatest_apart" s_greatest_apart ["tree", "order", "held", "barred"] := ⟨_, _, F6, PySem.W.mg_of X G a6, F6.binds (ps := ["tree", "order", "held", "barred"]) fun _ _ _ _ _ _ us hl => match us, hl with | [_, _, _, _], _ => rfl⟩
  have F7 := fun_mk (x := "best_set") (st := s_best_set) l7 c7 k7
  have D_best_set : Df K mg "best_set" "best_set" s_best_set ["tree"] := ⟨_, _, F7, PySem.W.mg_of X G a7, F7.binds (ps := ["tree"]) fun _ _ _ _ _ _ us hl => match us, hl with | [_], _ => rfl⟩
  have F8 := fun_mk (x := "greatest_piece") (st := s_greatest_piece) l8 c8 k8
  have D_greatest_piece : Df K mg "greatest_piece" "greatest_piece" s_greatest_piece ["tree", "order", "held", "barred"] := ⟨_, _, F8, PySem.W.mg_of X G a8, F8.binds (ps := ["tree", "order", "held", "barred"]) fun _ _ _ _ _ _ us hl => match us, hl with | [_, _, _, _], _ => rfl⟩
  have F9 := fun_mk (x := "hangs") (st := s_hangs) l9 c9 k9
  have D_hangs : Df K mg "hangs" "hangs" s_hangs ["order", "held"] := ⟨_, _, F9, PySem.W.mg_of X G a9, F9.binds (ps := ["order", "held"]) fun _ _ _ _ _ _ us hl => match us, hl with | [_, _], _ => rfl⟩
  have F10 := fun_mk (x := "best_piece") (st := s_best_piece) l10 c10 k10
  have D_best_piece : Df K mg "best_piece" "best_piece" s_best_piece ["tree", "place"] := ⟨_, _, F10, PySem.W.mg_of X G a10, F10.binds (ps := ["tree", "place"]) fun _ _ _ _ _ _ us hl => match us, hl with | [_, _], _ => rfl⟩
  have F11 := fun_mk (x := "_law_cell_at") (st := s_law_cell_at) l11 c11 k11
  have D_law_cell_at : Df K mg "_law_cell_at" "_law_cell_at" s_law_cell_at ["script", "k"] := ⟨_, _, F11, PySem.W.mg_of X G a11, F11.binds (ps := ["script", "k"]) fun _ _ _ _ _ _ us hl => match us, hl with | [_, _], _ => rfl⟩
  have F12 := fun_mk (x := "_law_numbers") (st := s_law_numbers) l12 c12 k12
  have D_law_numbers : Df K mg "_law_numbers" "_law_numbers" s_law_numbers ["cell", "many", "base"] := ⟨_, _, F12, PySem.W.mg_of X G a12, F12.binds (ps := ["cell", "many", "base"]) fun _ _ _ _ _ _ us hl => match us, hl with | [_, _, _], _ => rfl⟩
  have F13 := fun_mk (x := "_law_whole") (st := s_law_whole) l13 c13 k13
  have D_law_whole : Df K mg "_law_whole" "_law_whole" s_law_whole ["found"] := ⟨_, _, F13, PySem.W.mg_of X G a13, F13.binds (ps := ["found"]) fun _ _ _ _ _ _ us hl => match us, hl with | [_], _ => rfl⟩
  have F14 := fun_mk (x := "_law_worths") (st := s_law_worths) l14 c14 k14
  have D_law_worths : Df K mg "_law_worths" "_law_worths" s_law_worths ["script", "many"] := ⟨_, _, F14, PySem.W.mg_of X G a14, F14.binds (ps := ["script", "many"]) fun _ _ _ _ _ _ us hl => match us, hl with | [_, _], _ => rfl⟩
  have F15 := fun_mk (x := "_law_ties") (st := s_law_ties) l15 c15 k15
  have D_law_ties : Df K mg "_law_ties" "_law_ties" s_law_ties ["script", "many", "least"] := ⟨_, _, F15, PySem.W.mg_of X G a15, F15.binds (ps := ["script", "many", "least"]) fun _ _ _ _ _ _ us hl => match us, hl with | [_, _, _], _ => rfl⟩
  have F16 := fun_mk (x := "_law_tree") (st := s_law_tree) l16 c16 k16
  have D_law_tree : Df K mg "_law_tree" "_law_tree" s_law_tree ["script", "most", "least"] := ⟨_, _, F16, PySem.W.mg_of X G a16, F16.binds (ps := ["script", "most", "least"]) fun _ _ _ _ _ _ us hl => match us, hl with | [_, _, _], _ => rfl⟩
  have F17 := fun_mk (x := "_law_some") (st := s_law_some) l17 c17 k17
  have D_law_some : Df K mg "_law_some" "_law_some" s_law_some ["many"] := ⟨_, _, F17, PySem.W.mg_of X G a17, F17.binds (ps := ["many"]) fun _ _ _ _ _ _ us hl => match us, hl with | [_], _ => rfl⟩
  have F18 := fun_mk (x := "_law_tied") (st := s_law_tied) l18 c18 k18
  have D_law_tied : Df K mg "_law_tied" "_law_tied" s_law_tied ["tree", "row"] := ⟨_, _, F18, PySem.W.mg_of X G a18, F18.binds (ps := ["tree", "row"]) fun _ _ _ _ _ _ us hl => match us, hl with | [_, _], _ => rfl⟩
  have F19 := fun_mk (x := "_law_worth_of") (st := s_law_worth_of) l19 c19 k19
  have D_law_worth_of : Df K mg "_law_worth_of" "_law_worth_of" s_law_worth_of ["tree", "row"] := ⟨_, _, F19, PySem.W.mg_of X G a19, F19.binds (ps := ["tree", "row"]) fun _ _ _ _ _ _ us hl => match us, hl with | [_, _], _ => rfl⟩
  have F20 := fun_mk (x := "_law_copied") (st := s_law_copied) l20 c20 k20
  have D_law_copied : Df K mg "_law_copied" "_law_copied" s_law_copied ["tree"] := ⟨_, _, F20, PySem.W.mg_of X G a20, F20.binds (ps := ["tree"]) fun _ _ _ _ _ _ us hl => match us, hl with | [_], _ => rfl⟩
  have F21 := fun_mk (x := "_law_best") (st := s_law_best) l21 c21 k21
  have D_law_best : Df K mg "_law_best" "_law_best" s_law_best ["tree", "lists"] := ⟨_, _, F21, PySem.W.mg_of X G a21, F21.binds (ps := ["tree", "lists"]) fun _ _ _ _ _ _ us hl => match us, hl with | [_, _], _ => rfl⟩
  have F22 := fun_mk (x := "_law_refused") (st := s_law_refused) l22 c22 k22
  have D_law_refused : Df K mg "_law_refused" "_law_refused" s_law_refused ["tree", "seat"] := ⟨_, _, F22, PySem.W.mg_of X G a22, F22.binds (ps := ["tree", "seat"]) fun _ _ _ _ _ _ us hl => match us, hl with | [_, _], _ => rfl⟩
  have F23 := fun_mk (x := "_law_told") (st := s_law_told) l23 c23 k23
  have D_law_told : Df K mg "_law_told" "_law_told" s_law_told ["found", "due"] := ⟨_, _, F23, PySem.W.mg_of X G a23, F23.binds (ps := ["found", "due"]) fun _ _ _ _ _ _ us hl => match us, hl with | [_, _], _ => rfl⟩
  have F24 := fun_mk (x := "law") (st := s_law) l24 c24 k24
  refine ⟨PySem.W.fnOf "law" "law" (defArgs s_law) (defBody s_law) (defScope s_law) .none kV24 dc24 pm24 an24 cd24 ct24, fun s v => .of_eq rfl, fun base _ _ => ?_⟩
  have C_tied_places := ok_tied_places (P := P) (w := w) (base := base) nb D_tied_places
  have CO_tied_places := ok_tied_places_own (P := P) (w := w) (base := base) nb D_tied_places
  have C_need_place : Ca P w K mg base "need_place" 1 ["tree", "place"] (sp_need_place mg) := ok_need_place nb E_NoPlace  D_need_place
  have C_tied_to := ok_tied_to nb C_need_place CO_tied_places D_tied_to
  have C_hung_from : Ca P w K mg base "hung_from" 3 ["tree", "seat"] (sp_hung_from mg) := ok_hung_from nb C_tied_to  D_hung_from
  have C_put_together : Ca P w K mg base "put_together" 1 ["sums", "place", "begin", "more"] (sp_put_together mg) := ok_put_together nb  D_put_together
  have C_greatest_apart : Ca P w K mg base "greatest_apart" 2 ["tree", "order", "held", "barred"] (sp_greatest_apart mg) := ok_greatest_apart nb C_put_together  D_greatest_apart
  have C_best_set : Ca P w K mg base "best_set" 4 ["tree"] (sp_best_set mg) := ok_best_set nb C_greatest_apart C_hung_from  D_best_set
  have C_greatest_piece : Ca P w K mg base "greatest_piece" 1 ["tree", "order", "held", "barred"] (sp_greatest_piece mg) := ok_greatest_piece nb  D_greatest_piece
  have C_hangs : Ca P w K mg base "hangs" 1 ["order", "held"] (sp_hangs mg) := ok_hangs nb  D_hangs
  have C_best_piece : Ca P w K mg base "best_piece" 4 ["tree", "place"] (sp_best_piece mg) := ok_best_piece nb C_greatest_piece C_hangs C_hung_from C_need_place  D_best_piece
  have C_law_cell_at : Ca P w K mg base "_law_cell_at" 1 ["script", "k"] (sp_law_cell_at K mg) := ok_law_cell_at nb  D_law_cell_at
  have C_law_numbers : Ca P w K mg base "_law_numbers" 1 ["cell", "many", "base"] (sp_law_numbers mg) := ok_law_numbers nb  D_law_numbers
  have C_law_whole : Ca P w K mg base "_law_whole" 1 ["found"] (sp_law_whole mg) := ok_law_whole nb  D_law_whole
  have C_law_worths : Ca P w K mg base "_law_worths" 2 ["script", "many"] (sp_law_worths K mg) := ok_law_worths nb C_law_cell_at C_law_numbers  D_law_worths
  have C_law_ties : Ca P w K mg base "_law_ties" 2 ["script", "many", "least"] (sp_law_ties K mg) := ok_law_ties nb C_law_cell_at C_law_numbers  D_law_ties
  have C_law_tree : Ca P w K mg base "_law_tree" 3 ["script", "most", "least"] (sp_law_tree K mg) := ok_law_tree nb C_law_cell_at C_law_ties C_law_worths  D_law_tree
  have C_law_some : Ca P w K mg base "_law_some" 1 ["many"] (sp_law_some mg) := ok_law_some nb  D_law_some
  have C_law_tied : Ca P w K mg base "_law_tied" 1 ["tree", "row"] (sp_law_tied mg) := ok_law_tied nb  D_law_tied
  have C_law_worth_of : Ca P w K mg base "_law_worth_of" 1 ["tree", "row"] (sp_law_worth_of mg) := ok_law_worth_of nb  D_law_worth_of
  have C_law_copied : Ca P w K mg base "_law_copied" 1 ["tree"] (sp_law_copied mg) := ok_law_copied nb  D_law_copied
  have C_law_best : Ca P w K mg base "_law_best" 2 ["tree", "lists"] (sp_law_best mg) := ok_law_best nb C_law_worth_of  D_law_best
  have C_law_refused : Ca P w K mg base "_law_refused" 5 ["tree", "seat"] (sp_law_refused mg) := ok_law_refused nb C_best_piece EX  D_law_refused
  have C_law_told : Ca P w K mg base "_law_told" 2 ["found", "due"] (sp_law_told mg) := ok_law_told nb C_law_whole  D_law_told
  exact ok_law nb C_law_best C_law_cell_at C_law_copied C_law_refused C_law_some C_law_tied C_law_told C_law_tree C_best_piece C_best_set F24
theorem walk {l : PySem.W.OpenLaw} {q : Program} {loose : List Str} {XP : (Str → Option Value) → Heap → Prop} {YP : World → Heap → Prop} {d : DefRec} {K : Params → PySem.W.Frag} (hn : l.most = some 63) (hdf : d.params.defaults = [])
    (hY : ∀ (w : World) (h : Heap), YP w h → (K w.params).In h)
    (F : ∀ (w : World) (mg : Str → Option Value) (fa : Addr) (h : Heap), (K w.params).In h → h.Ns mainGlobals mg → mg d.name = some (.ref fa) →
      ∃ fd : FuncData, (∀ (s : Shared) (u : Value), BindsTo s fd ⟨[u], []⟩ [("script", u)]) ∧ ∀ base : Heap, (K w.params).In base → base.Ns mainGlobals mg → FnOk l.prog w (K w.params) mg base (L2.CX l.prog w) 6 fa fd ["script"] (sp_law (K w.params))) :
    PySem.W.WalkO q loose XP YP l.row.toRowW d [] (fun f vs => PySem.call f vs) :=
  L2.walk_of (n := 63) (k := 6) (x := "script") (CX := fun w => L2.CX l.prog w) (sp := fun w => sp_law (K w.params)) hn (by decide) hdf ⟨rfl, by decide, by decide⟩ hY F
    (fun _ H a ns hl _ hS => ⟨H, a, ns, rfl, ⟨Same.refl _, (fun _ h => nomatch h), (fun _ h => nomatch h), List.nodup_nil, (fun _ h => nomatch h)⟩, hS, by rw [law_true ns hl]; exact fun _ _ _ => rfl⟩)
    fun _ _ _ _ _ z => by
      obtain ⟨_, _, _, _, _, _, _, _, _, _, _, _, z⟩ := z
      exact z.elim
end G
open PySem PySem.W PyProof.Rows
set_option maxRecDepth 100000 in
set_option maxHeartbeats 0 in
theorem PySem.Challenge.cw_everyseat_k30_best_sets_holds : PySem.Challenge.rw_everyseat_k30_best_sets.Holds := by
  w_on; o_law; k_head; (case hw => w_witness2)
  k_fill
  refine G.walk (l := PySem.Challenge.rw_everyseat_k30_best_sets) rfl rfl (fun w h Y => PySem.W.kIn_of Y) ?F
  case F =>
    intro w mg fa h KX GG hmg
    refine' G.all_mk KX GG hmg ?a1 ?l1 ?c1 ?k1 ?a2 ?l2 ?c2 ?k2 ?a3 ?l3 ?c3 ?k3 ?a4 ?l4 ?c4 ?k4 ?a5 ?l5 ?c5 ?k5 ?a6 ?l6 ?c6 ?k6 ?a7 ?l7 ?c7 ?k7 ?a8 ?l8 ?c8 ?k8 ?a9 ?l9 ?c9 ?k9 ?a10 ?l10 ?c10 ?k10 ?a11 ?l11 ?c11 ?k11 ?a12 ?l12 ?c12 ?k12 ?a13 ?l13 ?c13 ?k13 ?a14 ?l14 ?c14 ?k14 ?a15 ?l15 ?c15 ?k15 ?a16 ?l16 ?c16 ?k16 ?a17 ?l17 ?c17 ?k17 ?a18 ?l18 ?c18 ?k18 ?a19 ?l19 ?c19 ?k19 ?a20 ?l20 ?c20 ?k20 ?a21 ?l21 ?c21 ?k21 ?a22 ?l22 ?c22 ?k22 ?a23 ?l23 ?c23 ?k23 ?a24 ?l24 ?c24 ?k24 ?ga_NoPlace ?gx_NoPlace ?gk_NoPlace ?gb_NoPlace ?gt_NoPlace ?ga_SeatError ?xd_SeatError ?xt_SeatError ?xn_SeatError ?xb_SeatError ?xs_SeatError_SeatError ?xd_NoPlace ?xt_NoPlace ?xn_NoPlace ?xb_NoPlace ?xs_NoPlace_NoPlace ?ga_NoLength ?xd_NoLength ?xt_NoLength ?xn_NoLength ?xb_NoLength ?xs_NoLength_NoLength ?ga_NoName ?xd_NoName ?xt_NoName ?xn_NoName ?xb_NoName ?xs_NoName_NoName ?ga_NoOrder ?xd_NoOrder ?xt_NoOrder ?xn_NoOrder ?xb_NoOrder ?xs_NoOrder_NoOrder ?ga_NoPaper ?xd_NoPaper ?xt_NoPaper ?xn_NoPaper ?xb_NoPaper ?xs_NoPaper_NoPaper ?ga_NoRule ?xd_NoRule ?xt_NoRule ?xn_NoRule ?xb_NoRule ?xs_NoRule_NoRule ?ga_NoText ?xd_NoText ?xt_NoText ?xn_NoText ?xb_NoText ?xs_NoText_NoText ?ga_NoTie ?xd_NoTie ?xt_NoTie ?xn_NoTie ?xb_NoTie ?xs_NoTie_NoTie ?ga_NoTree ?xd_NoTree ?xt_NoTree ?xn_NoTree ?xb_NoTree ?xs_NoTree_NoTree ?xg_NoPlace ?xk_NoPlace ?xc_NoPlace ?xm_NoPlace ?xv_NoPlace ?xs_NoPlace_SeatError ?xs_NoPlace_NoLength ?xs_NoPlace_NoName ?xs_NoPlace_NoOrder ?xs_NoPlace_NoPaper ?xs_NoPlace_NoRule ?xs_NoPlace_NoText ?xs_NoPlace_NoTie ?xs_NoPlace_NoTree ?xh1 ?xh2 ?z_ValueError ?z_all ?z_bool ?z_enumerate ?z_int ?z_isinstance ?z_len ?z_list ?z_max ?z_min ?z_range ?z_sorted ?z_sum
    (case a1 => k_is)
    (case l1 => k_is)
    (case c1 => k_is)
    (case k1 => k_is)
    (case a2 => k_is)
    (case l2 => k_is)
    (case c2 => k_is)
    (case k2 => k_is)
    (case a3 => k_is)
    (case l3 => k_is)
    (case c3 => k_is)
    (case k3 => k_is)
    (case a4 => k_is)
    (case l4 => k_is)
    (case c4 => k_is)
    (case k4 => k_is)
    (case a5 => k_is)
    (case l5 => k_is)
    (case c5 => k_is)
    (case k5 => k_is)
    (case a6 => k_is)
    (case l6 => k_is)
    (case c6 => k_is)
    (case k6 => k_is)
    (case a7 => k_is)
    (case l7 => k_is)
    (case c7 => k_is)
    (case k7 => k_is)
    (case a8 => k_is)
    (case l8 => k_is)
    (case c8 => k_is)
    (case k8 => k_is)
    (case a9 => k_is)
    (case l9 => k_is)
    (case c9 => k_is)
    (case k9 => k_is)
    (case a10 => k_is)
    (case l10 => k_is)
    (case c10 => k_is)
    (case k10 => k_is)
    (case a11 => k_is)
    (case l11 => k_is)
    (case c11 => k_is)
    (case k11 => k_is)
    (case a12 => k_is)
    (case l12 => k_is)
    (case c12 => k_is)
    (case k12 => k_is)
    (case a13 => k_is)
    (case l13 => k_is)
    (case c13 => k_is)
    (case k13 => k_is)
    (case a14 => k_is)
    (case l14 => k_is)
    (case c14 => k_is)
    (case k14 => k_is)
    (case a15 => k_is)
    (case l15 => k_is)
    (case c15 => k_is)
    (case k15 => k_is)
    (case a16 => k_is)
    (case l16 => k_is)
    (case c16 => k_is)
    (case k16 => k_is)
    (case a17 => k_is)
    (case l17 => k_is)
    (case c17 => k_is)
    (case k17 => k_is)
    (case a18 => k_is)
    (case l18 => k_is)
    (case c18 => k_is)
    (case k18 => k_is)
    (case a19 => k_is)
    (case l19 => k_is)
    (case c19 => k_is)
    (case k19 => k_is)
    (case a20 => k_is)
    (case l20 => k_is)
    (case c20 => k_is)
    (case k20 => k_is)
    (case a21 => k_is)
    (case l21 => k_is)
    (case c21 => k_is)
    (case k21 => k_is)
    (case a22 => k_is)
    (case l22 => k_is)
    (case c22 => k_is)
    (case k22 => k_is)
    (case a23 => k_is)
    (case l23 => k_is)
    (case c23 => k_is)
    (case k23 => k_is)
    (case a24 => k_is)
    (case l24 => k_is)
    (case c24 => k_is)
    (case k24 => k_is)
    (case ga_NoPlace => k_is)
    (case gx_NoPlace => k_exc)
    (case gk_NoPlace => k_is)
    (case gb_NoPlace => k_is)
    (case gt_NoPlace => k_is)
    (case ga_SeatError => k_is)
    (case xd_SeatError => k_is)
    (case xt_SeatError => k_is)
    (case xn_SeatError => k_is)
    (case xb_SeatError => k_is)
    (case xs_SeatError_SeatError => k_is)
    (case xd_NoPlace => k_is)
    (case xt_NoPlace => k_is)
    (case xn_NoPlace => k_is)
    (case xb_NoPlace => k_is)
    (case xs_NoPlace_NoPlace => k_is)
    (case ga_NoLength => k_is)
    (case xd_NoLength => k_is)
    (case xt_NoLength => k_is)
    (case xn_NoLength => k_is)
    (case xb_NoLength => k_is)
    (case xs_NoLength_NoLength => k_is)
    (case ga_NoName => k_is)
    (case xd_NoName => k_is)
    (case xt_NoName => k_is)
    (case xn_NoName => k_is)
    (case xb_NoName => k_is)
    (case xs_NoName_NoName => k_is)
    (case ga_NoOrder => k_is)
    (case xd_NoOrder => k_is)
    (case xt_NoOrder => k_is)
    (case xn_NoOrder => k_is)
    (case xb_NoOrder => k_is)
    (case xs_NoOrder_NoOrder => k_is)
    (case ga_NoPaper => k_is)
    (case xd_NoPaper => k_is)
    (case xt_NoPaper => k_is)
    (case xn_NoPaper => k_is)
    (case xb_NoPaper => k_is)
    (case xs_NoPaper_NoPaper => k_is)
    (case ga_NoRule => k_is)
    (case xd_NoRule => k_is)
    (case xt_NoRule => k_is)
    (case xn_NoRule => k_is)
    (case xb_NoRule => k_is)
    (case xs_NoRule_NoRule => k_is)
    (case ga_NoText => k_is)
    (case xd_NoText => k_is)
    (case xt_NoText => k_is)
    (case xn_NoText => k_is)
    (case xb_NoText => k_is)
    (case xs_NoText_NoText => k_is)
    (case ga_NoTie => k_is)
    (case xd_NoTie => k_is)
    (case xt_NoTie => k_is)
    (case xn_NoTie => k_is)
    (case xb_NoTie => k_is)
    (case xs_NoTie_NoTie => k_is)
    (case ga_NoTree => k_is)
    (case xd_NoTree => k_is)
    (case xt_NoTree => k_is)
    (case xn_NoTree => k_is)
    (case xb_NoTree => k_is)
    (case xs_NoTree_NoTree => k_is)
    (case xg_NoPlace => k_is)
    (case xk_NoPlace => k_is)
    (case xc_NoPlace => k_is)
    (case xm_NoPlace => k_is)
    (case xv_NoPlace => k_is)
    (case xs_NoPlace_SeatError => k_is)
    (case xs_NoPlace_NoLength => k_is)
    (case xs_NoPlace_NoName => k_is)
    (case xs_NoPlace_NoOrder => k_is)
    (case xs_NoPlace_NoPaper => k_is)
    (case xs_NoPlace_NoRule => k_is)
    (case xs_NoPlace_NoText => k_is)
    (case xs_NoPlace_NoTie => k_is)
    (case xs_NoPlace_NoTree => k_is)
    (case xh1 => k_is)
    (case xh2 => k_is)
    (case z_ValueError => k_is)
    (case z_all => k_is)
    (case z_bool => k_is)
    (case z_enumerate => k_is)
    (case z_int => k_is)
    (case z_isinstance => k_is)
    (case z_len => k_is)
    (case z_list => k_is)
    (case z_max => k_is)
    (case z_min => k_is)
    (case z_range => k_is)
    (case z_sorted => k_is)
    (case z_sum => k_is)
#print axioms PySem.Challenge.cw_everyseat_k30_best_sets_holds
